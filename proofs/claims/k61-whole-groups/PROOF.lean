import PyProof.Rows.All
import Wide.All
import OpenK.AllK
import Wide.FinOn
import HandS.ForMost
import HandS.Defaults
import HandS.Slots
import HandS.SlotsOwn
import HandS.Head0
import HandS.Head1
import HandS.Head2
import HandS.HeadEnd
import HandS.HeadHook1
import HandS.HeadHook2
import PySem.Challenge.RW_oneanswer_k61_whole_groups_and_complete
import HandS.Walk
import HandS.IsInst
import HandS.Style
import HandS.Star
import HandS.TupMul
import HandS.TupAny
import HandS.Zip
import HandS.Conv
import HandS.SetBool
import HandS.DictTup
import HandS.Sort
import HandS.Wide
import HandS.IterVal
import KE.GoesNew
import KE.GoesMore
import KE.GoesNewDict
import HandS.Strs
import HandS.TupSets
import KE.KDictDisplayH
import KE.KOwnIter
import PyProof.SumAny
import KE.KDictZip
import KE.KEqSeq
import HandS.Text
import HandS.WordsDict
set_option linter.all false
set_option Elab.async false
set_option maxRecDepth 100000
set_option maxHeartbeats 0
namespace K61
open PySem PySem.Spec PyProof.Rows L2
abbrev row := PySem.Challenge.rw_oneanswer_k61_whole_groups_and_complete
abbrev R : PySem.W.OpenRow := PySem.W.OpenLaw.row row
def top (i : Nat) : Stmt := PySem.Challenge.pw_oneanswer_k61_whole_groups_and_complete.main.body.getD i (.Pass ⟨0, 0, 0, 0⟩)
/-- the getter of the property f of the class at C -/
def gtA (K : PySem.W.Frag) (p : Addr) : Addr := (match PySem.W.recIn K p "property" with
  | some (.ref g :: _) => g
  | _ => 0)
def pgA (K : PySem.W.Frag) (C f : Str) : Addr := gtA K (He.ma K (He.ga K C) f)
structure Prp (K : PySem.W.Frag) (C : Addr) (f : Str) (p g : Addr) : Prop where
  at_ : PySem.W.findIn K (.ref C) f = some (some (.ref p))
  get : PySem.W.specialIn K (.ref p) "__get__" = some (some (.builtin "property.__get__"))
  tk : PySem.W.takesIn K (.ref p) = some true
  rc : ∃ rest, PySem.W.recIn K p "property" = some (.ref g :: rest)
def prpB (K : PySem.W.Frag) (C : Addr) (f : Str) : Bool := He.eqO (PySem.W.findIn K (.ref C) f) (some (some (.ref (He.ma K C f)))) && (He.eqO (PySem.W.specialIn K (.ref (He.ma K C f)) "__get__") (some (some (.builtin "property.__get__"))) &&
  (decide (PySem.W.takesIn K (.ref (He.ma K C f)) = some true) && (match PySem.W.recIn K (He.ma K C f) "property" with
    | some (.ref _ :: _) => true
    | _ => false)))
theorem prpB_ok {K : PySem.W.Frag} {C : Addr} {f : Str} (h : prpB K C f = true) : Prp K C f (He.ma K C f) (gtA K (He.ma K C f)) := by
  obtain ⟨h1, h⟩ := He.ba h
  obtain ⟨h2, h⟩ := He.ba h
  obtain ⟨h3, h4⟩ := He.ba h
  refine ⟨He.eqO_ok h1, He.eqO_ok h2, of_decide_eq_true h3, ?_⟩
  unfold gtA
  split at h4
  · rename_i g r e
    exact ⟨r, by rw [e]⟩
  · cases h4
def sclB (K : PySem.W.Frag) (C : Addr) : Bool := PySem.W.plainGet K C Str.empty && (PySem.W.isClsIn K C && (PySem.W.plainOver K C && He.eqO (PySem.W.findIn K (.ref C) "__setattr__") (some (some (.builtin "object.__setattr__")))))
theorem sclB_ok {K : PySem.W.Frag} {C : Addr} (h : sclB K C = true) : SlX.SCls K C := by
  obtain ⟨h1, h⟩ := He.ba h
  obtain ⟨h2, h⟩ := He.ba h
  obtain ⟨h3, h4⟩ := He.ba h
  exact ⟨h1, h2, h3, He.eqO_ok h4⟩
def slotB (K : PySem.W.Frag) (C : Addr) (f : Str) (i : Nat) : Bool := He.eqO (PySem.W.findIn K (.ref C) f) (some (some (.ref (He.ma K C f)))) && (He.eqO (PySem.W.specialIn K (.ref (He.ma K C f)) "__get__") (some (some (.builtin "member_descriptor.__get__"))) &&
  (decide (PySem.W.takesIn K (.ref (He.ma K C f)) = some true) && (decide (PySem.W.typeIn K (.ref (He.ma K C f)) = some (.type "member_descriptor")) && (decide (PySem.W.slotIn K (He.ma K C f) C = some i) && decide (i < 1000)))))
theorem slotB_ok {K : PySem.W.Frag} {C : Addr} {f : Str} {i : Nat} (h : slotB K C f i = true) : SlX.Slot1 K C f (He.ma K C f) i := by
  obtain ⟨h1, h⟩ := He.ba h
  obtain ⟨h2, h⟩ := He.ba h
  obtain ⟨h3, h⟩ := He.ba h
  obtain ⟨h4, h⟩ := He.ba h
  obtain ⟨h5, h6⟩ := He.ba h
  exact ⟨He.eqO_ok h1, He.eqO_ok h2, of_decide_eq_true h3, of_decide_eq_true h4, of_decide_eq_true h5, of_decide_eq_true h6⟩
def sisB (K : PySem.W.Frag) (C : Addr) : Bool := He.eqO (PySem.W.findIn K (.ref C) "__class__") (some (some (.builtin "object.__class__"))) && (He.eqO (PySem.W.specialIn K (.builtin "object.__class__") "__get__") (some (some (.builtin "getset_descriptor.__get__"))) &&
  (decide (PySem.W.takesIn K (.builtin "object.__class__") = some true) && decide (PySem.W.mroIn K C (.type "object") = some true)))
theorem sisB_ok {K : PySem.W.Frag} {C : Addr} (h : sisB K C = true) : SlX.SIsi K C := by
  obtain ⟨h1, h⟩ := He.ba h
  obtain ⟨h2, h⟩ := He.ba h
  obtain ⟨h3, h4⟩ := He.ba h
  exact ⟨He.eqO_ok h1, He.eqO_ok h2, of_decide_eq_true h3, of_decide_eq_true h4⟩
/-! ### a def of the text, wherever it stands -/
structure Df where
  ad : PySem.W.Frag → Addr
  nm : Str
  ql : Str
  st : Stmt
  dv : List V
def Df.see (K : PySem.W.Frag) (d : Df) : He.FnW := (match K.lookup (d.ad K) with
  | some o => (match o.data with
    | .func z => some (z.name, z.qualname, z.params, z.body, z.scope, z.globals, z.closure, z.builtins)
    | _ => none)
  | none => none)
def Df.due (d : Df) : He.FnW := some (d.nm, d.ql, defArgs d.st, .stmts (defBody d.st), defScope d.st, mainGlobals, [], builtinsNs)
def Df.good (K : PySem.W.Frag) (d : Df) : Bool := PySem.W.keepIn K (.ref (d.ad K)) && (match K.lookup (d.ad K) with
  | some o => (match o.data with
    | .func z => PySem.W.codeIn K z.code d.ql && He.dflB K z.defaults d.dv
    | _ => false)
  | none => false)
theorem Df.ok {K : PySem.W.Frag} {d : Df} (e : d.see K = d.due) (c : d.good K = true) : ∃ fd, FunD K d.nm d.ql (defArgs d.st) (defBody d.st) (defScope d.st) d.dv [] (d.ad K) fd := by
  obtain ⟨kp, c⟩ := He.ba c
  unfold Df.see at e
  unfold Df.due at e
  cases q : K.lookup (d.ad K) with
  | none =>
    rw [q] at c
    cases c
  | some o =>
    obtain ⟨oc, od, dt, osl⟩ := o
    rw [q] at c e
    cases dt with
    | func z =>
      obtain ⟨n1, n2, n3, n4, n5, n6, n7, n8, n9, n10, n11, n12, n13, n14, n15⟩ := z
      have e2 : (some (n1, n2, n3, n4, n5, n6, n7, n15) : He.FnW) = some (d.nm, d.ql, defArgs d.st, .stmts (defBody d.st), defScope d.st, mainGlobals, [], builtinsNs) := e
      simp only [Option.some.injEq, Prod.mk.injEq] at e2
      obtain ⟨h1, h2, h3, h4, h5, h6, h7, h8⟩ := e2
      subst h1 h2 h3 h4 h5 h6 h7 h8
      obtain ⟨k1, k2⟩ := He.ba (show (PySem.W.codeIn K n13 d.ql && He.dflB K n8 d.dv) = true from c)
      exact ⟨_, ⟨oc, od, n8, n9, n10, n11, n12, n13, n14, osl, rfl, q, k1, He.dflB_ok k2, .inl rfl⟩, kp⟩
    | _ => cases c
abbrev Al : Type := Bool × List He.FnW
def seeAll (fa : List (PySem.W.Frag → Bool)) (fn : List Df) (K : PySem.W.Frag) : Al := ((fa.all fun f => f K) && fn.all fun d => d.good K, fn.map fun d => d.see K)
def dueAll (fn : List Df) : Al := (true, fn.map Df.due)
/-! ### the part of the heap that is looked at: the module's names, the classes' tables, what stands in them, the defs' code -/
def grow (g : Addr → Option Obj) (f : Obj → List Addr) (as : List Addr) : List Addr := as.flatMap fun a => (match g a with
  | some o => f o
  | none => [])
def valsO (o : Obj) : List Addr := (match o.data with
  | .dict es _ => es.toList.flatMap fun e => He.refV e.val
  | _ => [])
def bodyO (o : Obj) : List Addr := (match o.data with
  | .func z => He.refV z.code ++ He.refV z.defaults
  | .cls c => [c.ns]
  | _ => [])
def propO (o : Obj) : List Addr := (match o.cls with
  | .type c => (match decide (c = "property") with
    | true => (match o.data with
      | .fields vs => vs.toList.flatMap He.refV
      | _ => [])
    | false => [])
  | _ => [])
def askA (g : Addr → Option Obj) (k : List Addr → Al) : Al :=
  (fun L1 : List Addr => (fun L2 : List Addr => (fun L3 : List Addr => (fun L4 : List Addr => k (mainGlobals :: (L2 ++ (L3 ++ (L1 ++ (L4 ++ (grow g bodyO L3 ++ grow g bodyO L4)))))))
    (grow g propO L3)) (grow g valsO L2)) (grow g bodyO L1)) (grow g valsO [mainGlobals])
def seeG (fa : List (PySem.W.Frag → Bool)) (fn : List Df) (g : Addr → Option Obj) : Al := askA g fun as => seeAll fa fn (He.frG g as)
def hook (fa : List (PySem.W.Frag → Bool)) (fn : List Df) : PySem.W.Hook where
  α := Al
  obs := fun s => seeG fa fn s.heap.get?
  val := fun _ => dueAll fn
  says := fun _ h => ∃ K : PySem.W.Frag, K.In h ∧ seeAll fa fn K = dueAll fn
  of := fun _ _ e => ⟨_, He.frG_in, e⟩
  keeps := fun _ _ _ ⟨K, hK, c⟩ k => ⟨K, PySem.W.Frag.In.keeps hK k, c⟩
theorem see_fact {fa : List (PySem.W.Frag → Bool)} {fn : List Df} {K : PySem.W.Frag} (c : seeAll fa fn K = dueAll fn) (i : Nat) {f : PySem.W.Frag → Bool} (h : fa[i]? = some f) : f K = true := by
  have c1 := (He.ba (show ((fa.all fun f => f K) && fn.all fun d => d.good K) = true from congrArg (fun z : Al => z.1) c)).1
  exact List.all_eq_true.mp c1 f (List.mem_of_getElem? h)
theorem see_fn {fa : List (PySem.W.Frag → Bool)} {fn : List Df} {K : PySem.W.Frag} (c : seeAll fa fn K = dueAll fn) (i : Nat) {d : Df} (h : fn[i]? = some d) : ∃ fd, FunD K d.nm d.ql (defArgs d.st) (defBody d.st) (defScope d.st) d.dv [] (d.ad K) fd := by
  have c2 := (He.ba (show ((fa.all fun f => f K) && fn.all fun d => d.good K) = true from congrArg (fun z : Al => z.1) c)).2
  have e : fn.map (fun d => d.see K) = fn.map Df.due := congrArg (fun z : Al => z.2) c
  have e2 : (fn.map fun d => d.see K)[i]? = (fn.map Df.due)[i]? := by rw [e]
  rw [List.getElem?_map, List.getElem?_map, h] at e2
  exact Df.ok (Option.some.inj e2) (List.all_eq_true.mp c2 d (List.mem_of_getElem? h))
def loose : List PySem.Str := (["_wall", "__name__", "AnswerError", "InvalidTable", "InvalidLoop", "InvalidOperation", "InvalidNumber", "TooMany", "MAX_ORDER", "BEYOND", "is_whole", "is_integer", "is_within", "require_within", "is_renaming_of", "is_renaming", "turned_back", "round_from", "ENTRIES", "Made", "are_rows", "transposed", "columns_of", "rows_of_signs", "require_sign", "rows_told", "is_triple", "Table", "require_table", "require_small"] : List PySem.Str) ++
  (["MOST_COUNTED", "weights_of", "is_cross", "counted", "stepped", "transversals_counted", "is_transversal", "count_transversals", "even_share", "places_of", "Halves", "halves_of", "sign_numbers", "sum_bar", "Loop", "is_group_rows", "require_name", "require_loop", "MOST_MAPPED", "require_group", "is_barred_group", "is_barred", "Search", "complete_mapping", "is_complete_mapping", "_law_urn", "_law_draw", "_law_pick", "_law_mixed", "_law_ring"] : List PySem.Str) ++
  (["_law_pairs", "_law_turns", "_law_renamed", "_law_order", "_law_is_barred", "_law_is_complete", "_law_near_right", "_law_right"] : List PySem.Str)
def fa : List (PySem.W.Frag → Bool) := [
  fun K => He.eqO (PySem.W.nsIn K mainGlobals "isinstance") (some none),
  fun K => He.eqO (PySem.W.nsIn K mainGlobals "int") (some none),
  fun K => He.eqO (PySem.W.nsIn K mainGlobals "bool") (some none),
  fun K => He.eqO (PySem.W.nsIn K mainGlobals "tuple") (some none),
  fun K => He.eqO (PySem.W.nsIn K mainGlobals "len") (some none),
  fun K => He.eqO (PySem.W.nsIn K mainGlobals "all") (some none),
  fun K => He.eqO (PySem.W.nsIn K mainGlobals "any") (some none),
  fun K => He.eqO (PySem.W.nsIn K mainGlobals "sorted") (some none),
  fun K => He.eqO (PySem.W.nsIn K mainGlobals "list") (some none),
  fun K => He.eqO (PySem.W.nsIn K mainGlobals "range") (some none),
  fun K => He.eqO (PySem.W.nsIn K mainGlobals "enumerate") (some none),
  fun K => He.eqO (PySem.W.nsIn K mainGlobals "sum") (some none),
  fun K => He.eqO (PySem.W.nsIn K mainGlobals "set") (some none),
  fun K => He.eqO (PySem.W.nsIn K mainGlobals "abs") (some none),
  fun K => He.eqO (PySem.W.nsIn K mainGlobals "min") (some none),
  fun K => He.eqO (PySem.W.nsIn K mainGlobals "max") (some none),
  fun K => He.eqO (PySem.W.nsIn K mainGlobals "zip") (some none),
  fun K => He.eqO (PySem.W.nsIn K mainGlobals "iter") (some none),
  fun K => (He.Fa.int "MAX_ORDER" 24).ok K,
  fun K => (He.Fa.int "MOST_COUNTED" 9).ok K,
  fun K => (He.Fa.int "MOST_MAPPED" 12).ok K,
  fun K => (He.Fa.glo "Table").ok K,
  fun K => sclB K (He.ga K "Table"),
  fun K => (He.Fa.mkr "Table").ok K,
  fun K => slotB K (He.ga K "Table") "own_heads" 0,
  fun K => slotB K (He.ga K "Table") "own_order" 1,
  fun K => slotB K (He.ga K "Table") "own_places" 2,
  fun K => slotB K (He.ga K "Table") "own_rows" 3,
  fun K => (He.Fa.glo "Halves").ok K,
  fun K => sclB K (He.ga K "Halves"),
  fun K => (He.Fa.mkr "Halves").ok K,
  fun K => slotB K (He.ga K "Halves") "own_end" 0,
  fun K => slotB K (He.ga K "Halves") "own_order" 1,
  fun K => slotB K (He.ga K "Halves") "own_rows" 2,
  fun K => slotB K (He.ga K "Halves") "own_weights" 3,
  fun K => (He.Fa.glo "Loop").ok K,
  fun K => sclB K (He.ga K "Loop"),
  fun K => (He.Fa.mkr "Loop").ok K,
  fun K => slotB K (He.ga K "Loop") "own_names" 0,
  fun K => slotB K (He.ga K "Loop") "own_rows" 1,
  fun K => slotB K (He.ga K "Loop") "own_table" 2,
  fun K => (He.Fa.glo "Search").ok K,
  fun K => sclB K (He.ga K "Search"),
  fun K => (He.Fa.mkr "Search").ok K,
  fun K => slotB K (He.ga K "Search") "own_dead" 0,
  fun K => slotB K (He.ga K "Search") "own_rows" 1,
  fun K => slotB K (He.ga K "Search") "own_weights" 2,
  fun K => (He.Fa.glo "Made").ok K,
  fun K => sisB K (He.ga K "Table"),
  fun K => decide (PySem.W.kitOne K (.ref (He.ga K "Table")) (.ref (He.ga K "Table")) = some true),
  fun K => sisB K (He.ga K "Loop"),
  fun K => decide (PySem.W.kitOne K (.ref (He.ga K "Loop")) (.ref (He.ga K "Loop")) = some true),
  fun K => decide (PySem.W.kitOne K (.type "tuple") (.ref (He.ga K "Made")) = some false),
  fun K => (He.Fa.glo "is_whole").ok K,
  fun K => (He.Fa.glo "is_within").ok K,
  fun K => (He.Fa.glo "require_within").ok K,
  fun K => (He.Fa.glo "is_renaming_of").ok K,
  fun K => (He.Fa.glo "is_renaming").ok K,
  fun K => (He.Fa.glo "turned_back").ok K,
  fun K => (He.Fa.glo "round_from").ok K,
  fun K => (He.Fa.glo "are_rows").ok K,
  fun K => (He.Fa.glo "transposed").ok K,
  fun K => (He.Fa.glo "columns_of").ok K,
  fun K => (He.Fa.glo "rows_of_signs").ok K,
  fun K => (He.Fa.glo "require_sign").ok K,
  fun K => (He.Fa.glo "rows_told").ok K,
  fun K => (He.Fa.glo "require_table").ok K,
  fun K => (He.Fa.glo "require_small").ok K,
  fun K => (He.Fa.glo "weights_of").ok K,
  fun K => (He.Fa.glo "is_cross").ok K,
  fun K => (He.Fa.glo "counted").ok K,
  fun K => (He.Fa.glo "stepped").ok K,
  fun K => (He.Fa.glo "transversals_counted").ok K,
  fun K => (He.Fa.glo "is_transversal").ok K,
  fun K => (He.Fa.glo "count_transversals").ok K,
  fun K => (He.Fa.glo "even_share").ok K,
  fun K => (He.Fa.glo "places_of").ok K,
  fun K => (He.Fa.glo "halves_of").ok K,
  fun K => (He.Fa.glo "sign_numbers").ok K,
  fun K => (He.Fa.glo "sum_bar").ok K,
  fun K => (He.Fa.glo "is_group_rows").ok K,
  fun K => (He.Fa.glo "require_name").ok K,
  fun K => (He.Fa.glo "require_loop").ok K,
  fun K => (He.Fa.glo "require_group").ok K,
  fun K => (He.Fa.glo "is_barred_group").ok K,
  fun K => (He.Fa.glo "is_barred").ok K,
  fun K => (He.Fa.glo "complete_mapping").ok K,
  fun K => (He.Fa.glo "is_complete_mapping").ok K,
  fun K => (He.Fa.glo "_law_urn").ok K,
  fun K => (He.Fa.glo "_law_draw").ok K,
  fun K => (He.Fa.glo "_law_pick").ok K,
  fun K => (He.Fa.glo "_law_mixed").ok K,
  fun K => (He.Fa.glo "_law_ring").ok K,
  fun K => (He.Fa.glo "_law_pairs").ok K,
  fun K => (He.Fa.glo "_law_turns").ok K,
  fun K => (He.Fa.glo "_law_renamed").ok K,
  fun K => (He.Fa.glo "_law_order").ok K,
  fun K => (He.Fa.glo "_law_is_barred").ok K,
  fun K => (He.Fa.glo "_law_is_complete").ok K,
  fun K => (He.Fa.glo "_law_near_right").ok K,
  fun K => (He.Fa.glo "_law_right").ok K,
  fun K => (He.Fa.glo "law").ok K,
  fun K => prpB K (He.ga K "Table") "is_ordered",
  fun K => (He.Fa.meth "Halves" "is_put").ok K,
  fun K => (He.Fa.meth "Halves" "free").ok K,
  fun K => (He.Fa.meth "Halves" "bits").ok K,
  fun K => prpB K (He.ga K "Loop") "table",
  fun K => prpB K (He.ga K "Loop") "order",
  fun K => (He.Fa.meth "Loop" "order_of").ok K,
  fun K => (He.Fa.meth "Loop" "is_group").ok K,
  fun K => (He.Fa.meth "Loop" "__iter__").ok K,
  fun K => (He.Fa.meth "Search" "ahead").ok K]
def fn : List Df := [
  ⟨fun K => He.ga K "is_whole", "is_whole", "is_whole", top 11, []⟩,
  ⟨fun K => He.ga K "is_within", "is_within", "is_within", top 13, []⟩,
  ⟨fun K => He.ga K "require_within", "require_within", "require_within", top 14, []⟩,
  ⟨fun K => He.ga K "is_renaming_of", "is_renaming_of", "is_renaming_of", top 15, []⟩,
  ⟨fun K => He.ga K "is_renaming", "is_renaming", "is_renaming", top 16, []⟩,
  ⟨fun K => He.ga K "turned_back", "turned_back", "turned_back", top 17, []⟩,
  ⟨fun K => He.ga K "round_from", "round_from", "round_from", top 18, []⟩,
  ⟨fun K => He.ga K "are_rows", "are_rows", "are_rows", top 22, []⟩,
  ⟨fun K => He.ga K "transposed", "transposed", "transposed", top 23, []⟩,
  ⟨fun K => He.ga K "columns_of", "columns_of", "columns_of", top 24, []⟩,
  ⟨fun K => He.ga K "rows_of_signs", "rows_of_signs", "rows_of_signs", top 25, []⟩,
  ⟨fun K => He.ga K "require_sign", "require_sign", "require_sign", top 26, []⟩,
  ⟨fun K => He.ga K "rows_told", "rows_told", "rows_told", top 27, []⟩,
  ⟨fun K => He.ga K "require_table", "require_table", "require_table", top 30, []⟩,
  ⟨fun K => He.ga K "require_small", "require_small", "require_small", top 31, []⟩,
  ⟨fun K => He.ga K "weights_of", "weights_of", "weights_of", top 34, []⟩,
  ⟨fun K => He.ga K "is_cross", "is_cross", "is_cross", top 35, []⟩,
  ⟨fun K => He.ga K "counted", "counted", "counted", top 36, [.non, .non]⟩,
  ⟨fun K => He.ga K "stepped", "stepped", "stepped", top 37, []⟩,
  ⟨fun K => He.ga K "transversals_counted", "transversals_counted", "transversals_counted", top 38, []⟩,
  ⟨fun K => He.ga K "is_transversal", "is_transversal", "is_transversal", top 39, []⟩,
  ⟨fun K => He.ga K "count_transversals", "count_transversals", "count_transversals", top 40, []⟩,
  ⟨fun K => He.ga K "even_share", "even_share", "even_share", top 42, []⟩,
  ⟨fun K => He.ga K "places_of", "places_of", "places_of", top 43, []⟩,
  ⟨fun K => He.ga K "halves_of", "halves_of", "halves_of", top 45, []⟩,
  ⟨fun K => He.ga K "sign_numbers", "sign_numbers", "sign_numbers", top 46, []⟩,
  ⟨fun K => He.ga K "sum_bar", "sum_bar", "sum_bar", top 47, []⟩,
  ⟨fun K => He.ga K "is_group_rows", "is_group_rows", "is_group_rows", top 50, []⟩,
  ⟨fun K => He.ga K "require_name", "require_name", "require_name", top 51, []⟩,
  ⟨fun K => He.ga K "require_loop", "require_loop", "require_loop", top 52, []⟩,
  ⟨fun K => He.ga K "require_group", "require_group", "require_group", top 55, []⟩,
  ⟨fun K => He.ga K "is_barred_group", "is_barred_group", "is_barred_group", top 56, []⟩,
  ⟨fun K => He.ga K "is_barred", "is_barred", "is_barred", top 57, []⟩,
  ⟨fun K => He.ga K "complete_mapping", "complete_mapping", "complete_mapping", top 59, []⟩,
  ⟨fun K => He.ga K "is_complete_mapping", "is_complete_mapping", "is_complete_mapping", top 60, []⟩,
  ⟨fun K => He.ga K "_law_urn", "_law_urn", "_law_urn", top 62, []⟩,
  ⟨fun K => He.ga K "_law_draw", "_law_draw", "_law_draw", top 63, []⟩,
  ⟨fun K => He.ga K "_law_pick", "_law_pick", "_law_pick", top 64, []⟩,
  ⟨fun K => He.ga K "_law_mixed", "_law_mixed", "_law_mixed", top 65, []⟩,
  ⟨fun K => He.ga K "_law_ring", "_law_ring", "_law_ring", top 66, []⟩,
  ⟨fun K => He.ga K "_law_pairs", "_law_pairs", "_law_pairs", top 67, []⟩,
  ⟨fun K => He.ga K "_law_turns", "_law_turns", "_law_turns", top 68, []⟩,
  ⟨fun K => He.ga K "_law_renamed", "_law_renamed", "_law_renamed", top 69, []⟩,
  ⟨fun K => He.ga K "_law_order", "_law_order", "_law_order", top 70, []⟩,
  ⟨fun K => He.ga K "_law_is_barred", "_law_is_barred", "_law_is_barred", top 71, []⟩,
  ⟨fun K => He.ga K "_law_is_complete", "_law_is_complete", "_law_is_complete", top 72, []⟩,
  ⟨fun K => He.ga K "_law_near_right", "_law_near_right", "_law_near_right", top 73, []⟩,
  ⟨fun K => He.ga K "_law_right", "_law_right", "_law_right", top 74, []⟩,
  ⟨fun K => He.ga K "law", "law", "law", top 75, []⟩,
  ⟨fun K => He.ma K (He.ga K "Table") "__init__", "__init__", "Table.__init__", inClass (top 29) 1, []⟩,
  ⟨fun K => pgA K "Table" "is_ordered", "is_ordered", "Table.is_ordered", inClass (top 29) 7, []⟩,
  ⟨fun K => He.ma K (He.ga K "Halves") "__init__", "__init__", "Halves.__init__", inClass (top 44) 1, []⟩,
  ⟨fun K => He.ma K (He.ga K "Halves") "is_put", "is_put", "Halves.is_put", inClass (top 44) 2, []⟩,
  ⟨fun K => He.ma K (He.ga K "Halves") "free", "free", "Halves.free", inClass (top 44) 3, []⟩,
  ⟨fun K => He.ma K (He.ga K "Halves") "bits", "bits", "Halves.bits", inClass (top 44) 4, []⟩,
  ⟨fun K => He.ma K (He.ga K "Loop") "__init__", "__init__", "Loop.__init__", inClass (top 49) 1, []⟩,
  ⟨fun K => pgA K "Loop" "table", "table", "Loop.table", inClass (top 49) 2, []⟩,
  ⟨fun K => pgA K "Loop" "order", "order", "Loop.order", inClass (top 49) 3, []⟩,
  ⟨fun K => He.ma K (He.ga K "Loop") "order_of", "order_of", "Loop.order_of", inClass (top 49) 10, []⟩,
  ⟨fun K => He.ma K (He.ga K "Loop") "is_group", "is_group", "Loop.is_group", inClass (top 49) 11, []⟩,
  ⟨fun K => He.ma K (He.ga K "Loop") "__iter__", "__iter__", "Loop.__iter__", inClass (top 49) 15, []⟩,
  ⟨fun K => He.ma K (He.ga K "Search") "__init__", "__init__", "Search.__init__", inClass (top 58) 1, []⟩,
  ⟨fun K => He.ma K (He.ga K "Search") "ahead", "ahead", "Search.ahead", inClass (top 58) 2, []⟩]
/-- what the text has written -/
structure Txt (K : PySem.W.Frag) (mg : Str → Option Value) : Prop where
  z_isinstance : mg "isinstance" = none
  z_int : mg "int" = none
  z_bool : mg "bool" = none
  z_tuple : mg "tuple" = none
  z_len : mg "len" = none
  z_all : mg "all" = none
  z_any : mg "any" = none
  z_sorted : mg "sorted" = none
  z_list : mg "list" = none
  z_range : mg "range" = none
  z_enumerate : mg "enumerate" = none
  z_sum : mg "sum" = none
  z_set : mg "set" = none
  z_abs : mg "abs" = none
  z_min : mg "min" = none
  z_max : mg "max" = none
  z_zip : mg "zip" = none
  z_iter : mg "iter" = none
  i_MAX_ORDER : ∃ t, mg "MAX_ORDER" = some (.int 24 t)
  i_MOST_COUNTED : ∃ t, mg "MOST_COUNTED" = some (.int 9 t)
  i_MOST_MAPPED : ∃ t, mg "MOST_MAPPED" = some (.int 12 t)
  g_Table : mg "Table" = some (.ref (He.ga K "Table"))
  s_Table : SlX.SCls K (He.ga K "Table")
  k_Table : Mk K (He.ga K "Table") (He.ma K (He.ga K "Table") "__init__")
  l_Table_own_heads : SlX.Slot1 K (He.ga K "Table") "own_heads" (He.ma K (He.ga K "Table") "own_heads") 0
  l_Table_own_order : SlX.Slot1 K (He.ga K "Table") "own_order" (He.ma K (He.ga K "Table") "own_order") 1
  l_Table_own_places : SlX.Slot1 K (He.ga K "Table") "own_places" (He.ma K (He.ga K "Table") "own_places") 2
  l_Table_own_rows : SlX.Slot1 K (He.ga K "Table") "own_rows" (He.ma K (He.ga K "Table") "own_rows") 3
  g_Halves : mg "Halves" = some (.ref (He.ga K "Halves"))
  s_Halves : SlX.SCls K (He.ga K "Halves")
  k_Halves : Mk K (He.ga K "Halves") (He.ma K (He.ga K "Halves") "__init__")
  l_Halves_own_end : SlX.Slot1 K (He.ga K "Halves") "own_end" (He.ma K (He.ga K "Halves") "own_end") 0
  l_Halves_own_order : SlX.Slot1 K (He.ga K "Halves") "own_order" (He.ma K (He.ga K "Halves") "own_order") 1
  l_Halves_own_rows : SlX.Slot1 K (He.ga K "Halves") "own_rows" (He.ma K (He.ga K "Halves") "own_rows") 2
  l_Halves_own_weights : SlX.Slot1 K (He.ga K "Halves") "own_weights" (He.ma K (He.ga K "Halves") "own_weights") 3
  g_Loop : mg "Loop" = some (.ref (He.ga K "Loop"))
  s_Loop : SlX.SCls K (He.ga K "Loop")
  k_Loop : Mk K (He.ga K "Loop") (He.ma K (He.ga K "Loop") "__init__")
  l_Loop_own_names : SlX.Slot1 K (He.ga K "Loop") "own_names" (He.ma K (He.ga K "Loop") "own_names") 0
  l_Loop_own_rows : SlX.Slot1 K (He.ga K "Loop") "own_rows" (He.ma K (He.ga K "Loop") "own_rows") 1
  l_Loop_own_table : SlX.Slot1 K (He.ga K "Loop") "own_table" (He.ma K (He.ga K "Loop") "own_table") 2
  g_Search : mg "Search" = some (.ref (He.ga K "Search"))
  s_Search : SlX.SCls K (He.ga K "Search")
  k_Search : Mk K (He.ga K "Search") (He.ma K (He.ga K "Search") "__init__")
  l_Search_own_dead : SlX.Slot1 K (He.ga K "Search") "own_dead" (He.ma K (He.ga K "Search") "own_dead") 0
  l_Search_own_rows : SlX.Slot1 K (He.ga K "Search") "own_rows" (He.ma K (He.ga K "Search") "own_rows") 1
  l_Search_own_weights : SlX.Slot1 K (He.ga K "Search") "own_weights" (He.ma K (He.ga K "Search") "own_weights") 2
  g_Made : mg "Made" = some (.ref (He.ga K "Made"))
  w_Table : SlX.SIsi K (He.ga K "Table")
  o_Table : PySem.W.kitOne K (.ref (He.ga K "Table")) (.ref (He.ga K "Table")) = some true
  w_Loop : SlX.SIsi K (He.ga K "Loop")
  o_Loop : PySem.W.kitOne K (.ref (He.ga K "Loop")) (.ref (He.ga K "Loop")) = some true
  o_Made : PySem.W.kitOne K (.type "tuple") (.ref (He.ga K "Made")) = some false
  g_is_whole : mg "is_whole" = some (.ref (He.ga K "is_whole"))
  g_is_within : mg "is_within" = some (.ref (He.ga K "is_within"))
  g_require_within : mg "require_within" = some (.ref (He.ga K "require_within"))
  g_is_renaming_of : mg "is_renaming_of" = some (.ref (He.ga K "is_renaming_of"))
  g_is_renaming : mg "is_renaming" = some (.ref (He.ga K "is_renaming"))
  g_turned_back : mg "turned_back" = some (.ref (He.ga K "turned_back"))
  g_round_from : mg "round_from" = some (.ref (He.ga K "round_from"))
  g_are_rows : mg "are_rows" = some (.ref (He.ga K "are_rows"))
  g_transposed : mg "transposed" = some (.ref (He.ga K "transposed"))
  g_columns_of : mg "columns_of" = some (.ref (He.ga K "columns_of"))
  g_rows_of_signs : mg "rows_of_signs" = some (.ref (He.ga K "rows_of_signs"))
  g_require_sign : mg "require_sign" = some (.ref (He.ga K "require_sign"))
  g_rows_told : mg "rows_told" = some (.ref (He.ga K "rows_told"))
  g_require_table : mg "require_table" = some (.ref (He.ga K "require_table"))
  g_require_small : mg "require_small" = some (.ref (He.ga K "require_small"))
  g_weights_of : mg "weights_of" = some (.ref (He.ga K "weights_of"))
  g_is_cross : mg "is_cross" = some (.ref (He.ga K "is_cross"))
  g_counted : mg "counted" = some (.ref (He.ga K "counted"))
  g_stepped : mg "stepped" = some (.ref (He.ga K "stepped"))
  g_transversals_counted : mg "transversals_counted" = some (.ref (He.ga K "transversals_counted"))
  g_is_transversal : mg "is_transversal" = some (.ref (He.ga K "is_transversal"))
  g_count_transversals : mg "count_transversals" = some (.ref (He.ga K "count_transversals"))
  g_even_share : mg "even_share" = some (.ref (He.ga K "even_share"))
  g_places_of : mg "places_of" = some (.ref (He.ga K "places_of"))
  g_halves_of : mg "halves_of" = some (.ref (He.ga K "halves_of"))
  g_sign_numbers : mg "sign_numbers" = some (.ref (He.ga K "sign_numbers"))
  g_sum_bar : mg "sum_bar" = some (.ref (He.ga K "sum_bar"))
  g_is_group_rows : mg "is_group_rows" = some (.ref (He.ga K "is_group_rows"))
  g_require_name : mg "require_name" = some (.ref (He.ga K "require_name"))
  g_require_loop : mg "require_loop" = some (.ref (He.ga K "require_loop"))
  g_require_group : mg "require_group" = some (.ref (He.ga K "require_group"))
  g_is_barred_group : mg "is_barred_group" = some (.ref (He.ga K "is_barred_group"))
  g_is_barred : mg "is_barred" = some (.ref (He.ga K "is_barred"))
  g_complete_mapping : mg "complete_mapping" = some (.ref (He.ga K "complete_mapping"))
  g_is_complete_mapping : mg "is_complete_mapping" = some (.ref (He.ga K "is_complete_mapping"))
  g_law_urn : mg "_law_urn" = some (.ref (He.ga K "_law_urn"))
  g_law_draw : mg "_law_draw" = some (.ref (He.ga K "_law_draw"))
  g_law_pick : mg "_law_pick" = some (.ref (He.ga K "_law_pick"))
  g_law_mixed : mg "_law_mixed" = some (.ref (He.ga K "_law_mixed"))
  g_law_ring : mg "_law_ring" = some (.ref (He.ga K "_law_ring"))
  g_law_pairs : mg "_law_pairs" = some (.ref (He.ga K "_law_pairs"))
  g_law_turns : mg "_law_turns" = some (.ref (He.ga K "_law_turns"))
  g_law_renamed : mg "_law_renamed" = some (.ref (He.ga K "_law_renamed"))
  g_law_order : mg "_law_order" = some (.ref (He.ga K "_law_order"))
  g_law_is_barred : mg "_law_is_barred" = some (.ref (He.ga K "_law_is_barred"))
  g_law_is_complete : mg "_law_is_complete" = some (.ref (He.ga K "_law_is_complete"))
  g_law_near_right : mg "_law_near_right" = some (.ref (He.ga K "_law_near_right"))
  g_law_right : mg "_law_right" = some (.ref (He.ga K "_law_right"))
  g_law : mg "law" = some (.ref (He.ga K "law"))
  p_Table_is_ordered : Prp K (He.ga K "Table") "is_ordered" (He.ma K (He.ga K "Table") "is_ordered") (pgA K "Table" "is_ordered")
  m_Halves_is_put : Meth K (He.ga K "Halves") "is_put" (He.ma K (He.ga K "Halves") "is_put")
  m_Halves_free : Meth K (He.ga K "Halves") "free" (He.ma K (He.ga K "Halves") "free")
  m_Halves_bits : Meth K (He.ga K "Halves") "bits" (He.ma K (He.ga K "Halves") "bits")
  p_Loop_table : Prp K (He.ga K "Loop") "table" (He.ma K (He.ga K "Loop") "table") (pgA K "Loop" "table")
  p_Loop_order : Prp K (He.ga K "Loop") "order" (He.ma K (He.ga K "Loop") "order") (pgA K "Loop" "order")
  m_Loop_order_of : Meth K (He.ga K "Loop") "order_of" (He.ma K (He.ga K "Loop") "order_of")
  m_Loop_is_group : Meth K (He.ga K "Loop") "is_group" (He.ma K (He.ga K "Loop") "is_group")
  m_Loop_iter : Meth K (He.ga K "Loop") "__iter__" (He.ma K (He.ga K "Loop") "__iter__")
  m_Search_ahead : Meth K (He.ga K "Search") "ahead" (He.ma K (He.ga K "Search") "ahead")
  f_is_whole : ∃ fd, FunD K "is_whole" "is_whole" (defArgs (top 11)) (defBody (top 11)) (defScope (top 11)) [] [] (He.ga K "is_whole") fd
  f_is_within : ∃ fd, FunD K "is_within" "is_within" (defArgs (top 13)) (defBody (top 13)) (defScope (top 13)) [] [] (He.ga K "is_within") fd
  f_require_within : ∃ fd, FunD K "require_within" "require_within" (defArgs (top 14)) (defBody (top 14)) (defScope (top 14)) [] [] (He.ga K "require_within") fd
  f_is_renaming_of : ∃ fd, FunD K "is_renaming_of" "is_renaming_of" (defArgs (top 15)) (defBody (top 15)) (defScope (top 15)) [] [] (He.ga K "is_renaming_of") fd
  f_is_renaming : ∃ fd, FunD K "is_renaming" "is_renaming" (defArgs (top 16)) (defBody (top 16)) (defScope (top 16)) [] [] (He.ga K "is_renaming") fd
  f_turned_back : ∃ fd, FunD K "turned_back" "turned_back" (defArgs (top 17)) (defBody (top 17)) (defScope (top 17)) [] [] (He.ga K "turned_back") fd
  f_round_from : ∃ fd, FunD K "round_from" "round_from" (defArgs (top 18)) (defBody (top 18)) (defScope (top 18)) [] [] (He.ga K "round_from") fd
  f_are_rows : ∃ fd, FunD K "are_rows" "are_rows" (defArgs (top 22)) (defBody (top 22)) (defScope (top 22)) [] [] (He.ga K "are_rows") fd
  f_transposed : ∃ fd, FunD K "transposed" "transposed" (defArgs (top 23)) (defBody (top 23)) (defScope (top 23)) [] [] (He.ga K "transposed") fd
  f_columns_of : ∃ fd, FunD K "columns_of" "columns_of" (defArgs (top 24)) (defBody (top 24)) (defScope (top 24)) [] [] (He.ga K "columns_of") fd
  f_rows_of_signs : ∃ fd, FunD K "rows_of_signs" "rows_of_signs" (defArgs (top 25)) (defBody (top 25)) (defScope (top 25)) [] [] (He.ga K "rows_of_signs") fd
  f_require_sign : ∃ fd, FunD K "require_sign" "require_sign" (defArgs (top 26)) (defBody (top 26)) (defScope (top 26)) [] [] (He.ga K "require_sign") fd
  f_rows_told : ∃ fd, FunD K "rows_told" "rows_told" (defArgs (top 27)) (defBody (top 27)) (defScope (top 27)) [] [] (He.ga K "rows_told") fd
  f_require_table : ∃ fd, FunD K "require_table" "require_table" (defArgs (top 30)) (defBody (top 30)) (defScope (top 30)) [] [] (He.ga K "require_table") fd
  f_require_small : ∃ fd, FunD K "require_small" "require_small" (defArgs (top 31)) (defBody (top 31)) (defScope (top 31)) [] [] (He.ga K "require_small") fd
  f_weights_of : ∃ fd, FunD K "weights_of" "weights_of" (defArgs (top 34)) (defBody (top 34)) (defScope (top 34)) [] [] (He.ga K "weights_of") fd
  f_is_cross : ∃ fd, FunD K "is_cross" "is_cross" (defArgs (top 35)) (defBody (top 35)) (defScope (top 35)) [] [] (He.ga K "is_cross") fd
  f_counted : ∃ fd, FunD K "counted" "counted" (defArgs (top 36)) (defBody (top 36)) (defScope (top 36)) [.non, .non] [] (He.ga K "counted") fd
  f_stepped : ∃ fd, FunD K "stepped" "stepped" (defArgs (top 37)) (defBody (top 37)) (defScope (top 37)) [] [] (He.ga K "stepped") fd
  f_transversals_counted : ∃ fd, FunD K "transversals_counted" "transversals_counted" (defArgs (top 38)) (defBody (top 38)) (defScope (top 38)) [] [] (He.ga K "transversals_counted") fd
  f_is_transversal : ∃ fd, FunD K "is_transversal" "is_transversal" (defArgs (top 39)) (defBody (top 39)) (defScope (top 39)) [] [] (He.ga K "is_transversal") fd
  f_count_transversals : ∃ fd, FunD K "count_transversals" "count_transversals" (defArgs (top 40)) (defBody (top 40)) (defScope (top 40)) [] [] (He.ga K "count_transversals") fd
  f_even_share : ∃ fd, FunD K "even_share" "even_share" (defArgs (top 42)) (defBody (top 42)) (defScope (top 42)) [] [] (He.ga K "even_share") fd
  f_places_of : ∃ fd, FunD K "places_of" "places_of" (defArgs (top 43)) (defBody (top 43)) (defScope (top 43)) [] [] (He.ga K "places_of") fd
  f_halves_of : ∃ fd, FunD K "halves_of" "halves_of" (defArgs (top 45)) (defBody (top 45)) (defScope (top 45)) [] [] (He.ga K "halves_of") fd
  f_sign_numbers : ∃ fd, FunD K "sign_numbers" "sign_numbers" (defArgs (top 46)) (defBody (top 46)) (defScope (top 46)) [] [] (He.ga K "sign_numbers") fd
  f_sum_bar : ∃ fd, FunD K "sum_bar" "sum_bar" (defArgs (top 47)) (defBody (top 47)) (defScope (top 47)) [] [] (He.ga K "sum_bar") fd
  f_is_group_rows : ∃ fd, FunD K "is_group_rows" "is_group_rows" (defArgs (top 50)) (defBody (top 50)) (defScope (top 50)) [] [] (He.ga K "is_group_rows") fd
  f_require_name : ∃ fd, FunD K "require_name" "require_name" (defArgs (top 51)) (defBody (top 51)) (defScope (top 51)) [] [] (He.ga K "require_name") fd
  f_require_loop : ∃ fd, FunD K "require_loop" "require_loop" (defArgs (top 52)) (defBody (top 52)) (defScope (top 52)) [] [] (He.ga K "require_loop") fd
  f_require_group : ∃ fd, FunD K "require_group" "require_group" (defArgs (top 55)) (defBody (top 55)) (defScope (top 55)) [] [] (He.ga K "require_group") fd
  f_is_barred_group : ∃ fd, FunD K "is_barred_group" "is_barred_group" (defArgs (top 56)) (defBody (top 56)) (defScope (top 56)) [] [] (He.ga K "is_barred_group") fd
  f_is_barred : ∃ fd, FunD K "is_barred" "is_barred" (defArgs (top 57)) (defBody (top 57)) (defScope (top 57)) [] [] (He.ga K "is_barred") fd
  f_complete_mapping : ∃ fd, FunD K "complete_mapping" "complete_mapping" (defArgs (top 59)) (defBody (top 59)) (defScope (top 59)) [] [] (He.ga K "complete_mapping") fd
  f_is_complete_mapping : ∃ fd, FunD K "is_complete_mapping" "is_complete_mapping" (defArgs (top 60)) (defBody (top 60)) (defScope (top 60)) [] [] (He.ga K "is_complete_mapping") fd
  f_law_urn : ∃ fd, FunD K "_law_urn" "_law_urn" (defArgs (top 62)) (defBody (top 62)) (defScope (top 62)) [] [] (He.ga K "_law_urn") fd
  f_law_draw : ∃ fd, FunD K "_law_draw" "_law_draw" (defArgs (top 63)) (defBody (top 63)) (defScope (top 63)) [] [] (He.ga K "_law_draw") fd
  f_law_pick : ∃ fd, FunD K "_law_pick" "_law_pick" (defArgs (top 64)) (defBody (top 64)) (defScope (top 64)) [] [] (He.ga K "_law_pick") fd
  f_law_mixed : ∃ fd, FunD K "_law_mixed" "_law_mixed" (defArgs (top 65)) (defBody (top 65)) (defScope (top 65)) [] [] (He.ga K "_law_mixed") fd
  f_law_ring : ∃ fd, FunD K "_law_ring" "_law_ring" (defArgs (top 66)) (defBody (top 66)) (defScope (top 66)) [] [] (He.ga K "_law_ring") fd
  f_law_pairs : ∃ fd, FunD K "_law_pairs" "_law_pairs" (defArgs (top 67)) (defBody (top 67)) (defScope (top 67)) [] [] (He.ga K "_law_pairs") fd
  f_law_turns : ∃ fd, FunD K "_law_turns" "_law_turns" (defArgs (top 68)) (defBody (top 68)) (defScope (top 68)) [] [] (He.ga K "_law_turns") fd
  f_law_renamed : ∃ fd, FunD K "_law_renamed" "_law_renamed" (defArgs (top 69)) (defBody (top 69)) (defScope (top 69)) [] [] (He.ga K "_law_renamed") fd
  f_law_order : ∃ fd, FunD K "_law_order" "_law_order" (defArgs (top 70)) (defBody (top 70)) (defScope (top 70)) [] [] (He.ga K "_law_order") fd
  f_law_is_barred : ∃ fd, FunD K "_law_is_barred" "_law_is_barred" (defArgs (top 71)) (defBody (top 71)) (defScope (top 71)) [] [] (He.ga K "_law_is_barred") fd
  f_law_is_complete : ∃ fd, FunD K "_law_is_complete" "_law_is_complete" (defArgs (top 72)) (defBody (top 72)) (defScope (top 72)) [] [] (He.ga K "_law_is_complete") fd
  f_law_near_right : ∃ fd, FunD K "_law_near_right" "_law_near_right" (defArgs (top 73)) (defBody (top 73)) (defScope (top 73)) [] [] (He.ga K "_law_near_right") fd
  f_law_right : ∃ fd, FunD K "_law_right" "_law_right" (defArgs (top 74)) (defBody (top 74)) (defScope (top 74)) [] [] (He.ga K "_law_right") fd
  f_law : ∃ fd, FunD K "law" "law" (defArgs (top 75)) (defBody (top 75)) (defScope (top 75)) [] [] (He.ga K "law") fd
  f_Table_init : ∃ fd, FunD K "__init__" "Table.__init__" (defArgs (inClass (top 29) 1)) (defBody (inClass (top 29) 1)) (defScope (inClass (top 29) 1)) [] [] (He.ma K (He.ga K "Table") "__init__") fd
  f_Table_is_ordered : ∃ fd, FunD K "is_ordered" "Table.is_ordered" (defArgs (inClass (top 29) 7)) (defBody (inClass (top 29) 7)) (defScope (inClass (top 29) 7)) [] [] (pgA K "Table" "is_ordered") fd
  f_Halves_init : ∃ fd, FunD K "__init__" "Halves.__init__" (defArgs (inClass (top 44) 1)) (defBody (inClass (top 44) 1)) (defScope (inClass (top 44) 1)) [] [] (He.ma K (He.ga K "Halves") "__init__") fd
  f_Halves_is_put : ∃ fd, FunD K "is_put" "Halves.is_put" (defArgs (inClass (top 44) 2)) (defBody (inClass (top 44) 2)) (defScope (inClass (top 44) 2)) [] [] (He.ma K (He.ga K "Halves") "is_put") fd
  f_Halves_free : ∃ fd, FunD K "free" "Halves.free" (defArgs (inClass (top 44) 3)) (defBody (inClass (top 44) 3)) (defScope (inClass (top 44) 3)) [] [] (He.ma K (He.ga K "Halves") "free") fd
  f_Halves_bits : ∃ fd, FunD K "bits" "Halves.bits" (defArgs (inClass (top 44) 4)) (defBody (inClass (top 44) 4)) (defScope (inClass (top 44) 4)) [] [] (He.ma K (He.ga K "Halves") "bits") fd
  f_Loop_init : ∃ fd, FunD K "__init__" "Loop.__init__" (defArgs (inClass (top 49) 1)) (defBody (inClass (top 49) 1)) (defScope (inClass (top 49) 1)) [] [] (He.ma K (He.ga K "Loop") "__init__") fd
  f_Loop_table : ∃ fd, FunD K "table" "Loop.table" (defArgs (inClass (top 49) 2)) (defBody (inClass (top 49) 2)) (defScope (inClass (top 49) 2)) [] [] (pgA K "Loop" "table") fd
  f_Loop_order : ∃ fd, FunD K "order" "Loop.order" (defArgs (inClass (top 49) 3)) (defBody (inClass (top 49) 3)) (defScope (inClass (top 49) 3)) [] [] (pgA K "Loop" "order") fd
  f_Loop_order_of : ∃ fd, FunD K "order_of" "Loop.order_of" (defArgs (inClass (top 49) 10)) (defBody (inClass (top 49) 10)) (defScope (inClass (top 49) 10)) [] [] (He.ma K (He.ga K "Loop") "order_of") fd
  f_Loop_is_group : ∃ fd, FunD K "is_group" "Loop.is_group" (defArgs (inClass (top 49) 11)) (defBody (inClass (top 49) 11)) (defScope (inClass (top 49) 11)) [] [] (He.ma K (He.ga K "Loop") "is_group") fd
  f_Loop_iter : ∃ fd, FunD K "__iter__" "Loop.__iter__" (defArgs (inClass (top 49) 15)) (defBody (inClass (top 49) 15)) (defScope (inClass (top 49) 15)) [] [] (He.ma K (He.ga K "Loop") "__iter__") fd
  f_Search_init : ∃ fd, FunD K "__init__" "Search.__init__" (defArgs (inClass (top 58) 1)) (defBody (inClass (top 58) 1)) (defScope (inClass (top 58) 1)) [] [] (He.ma K (He.ga K "Search") "__init__") fd
  f_Search_ahead : ∃ fd, FunD K "ahead" "Search.ahead" (defArgs (inClass (top 58) 2)) (defBody (inClass (top 58) 2)) (defScope (inClass (top 58) 2)) [] [] (He.ma K (He.ga K "Search") "ahead") fd
theorem txt_of {K : PySem.W.Frag} {mg : Str → Option Value} {h : Heap} (X : K.In h) (G : h.Ns mainGlobals mg) (c : seeAll fa fn K = dueAll fn) : Txt K mg where
  z_isinstance := PySem.W.mg_none_of X G (He.eqO_ok (see_fact c 0 rfl))
  z_int := PySem.W.mg_none_of X G (He.eqO_ok (see_fact c 1 rfl))
  z_bool := PySem.W.mg_none_of X G (He.eqO_ok (see_fact c 2 rfl))
  z_tuple := PySem.W.mg_none_of X G (He.eqO_ok (see_fact c 3 rfl))
  z_len := PySem.W.mg_none_of X G (He.eqO_ok (see_fact c 4 rfl))
  z_all := PySem.W.mg_none_of X G (He.eqO_ok (see_fact c 5 rfl))
  z_any := PySem.W.mg_none_of X G (He.eqO_ok (see_fact c 6 rfl))
  z_sorted := PySem.W.mg_none_of X G (He.eqO_ok (see_fact c 7 rfl))
  z_list := PySem.W.mg_none_of X G (He.eqO_ok (see_fact c 8 rfl))
  z_range := PySem.W.mg_none_of X G (He.eqO_ok (see_fact c 9 rfl))
  z_enumerate := PySem.W.mg_none_of X G (He.eqO_ok (see_fact c 10 rfl))
  z_sum := PySem.W.mg_none_of X G (He.eqO_ok (see_fact c 11 rfl))
  z_set := PySem.W.mg_none_of X G (He.eqO_ok (see_fact c 12 rfl))
  z_abs := PySem.W.mg_none_of X G (He.eqO_ok (see_fact c 13 rfl))
  z_min := PySem.W.mg_none_of X G (He.eqO_ok (see_fact c 14 rfl))
  z_max := PySem.W.mg_none_of X G (He.eqO_ok (see_fact c 15 rfl))
  z_zip := PySem.W.mg_none_of X G (He.eqO_ok (see_fact c 16 rfl))
  z_iter := PySem.W.mg_none_of X G (He.eqO_ok (see_fact c 17 rfl))
  i_MAX_ORDER := He.int_ok X G (see_fact c 18 rfl)
  i_MOST_COUNTED := He.int_ok X G (see_fact c 19 rfl)
  i_MOST_MAPPED := He.int_ok X G (see_fact c 20 rfl)
  g_Table := He.glo_ok X G (see_fact c 21 rfl)
  s_Table := sclB_ok (see_fact c 22 rfl)
  k_Table := He.mkr_ok (see_fact c 23 rfl)
  l_Table_own_heads := slotB_ok (see_fact c 24 rfl)
  l_Table_own_order := slotB_ok (see_fact c 25 rfl)
  l_Table_own_places := slotB_ok (see_fact c 26 rfl)
  l_Table_own_rows := slotB_ok (see_fact c 27 rfl)
  g_Halves := He.glo_ok X G (see_fact c 28 rfl)
  s_Halves := sclB_ok (see_fact c 29 rfl)
  k_Halves := He.mkr_ok (see_fact c 30 rfl)
  l_Halves_own_end := slotB_ok (see_fact c 31 rfl)
  l_Halves_own_order := slotB_ok (see_fact c 32 rfl)
  l_Halves_own_rows := slotB_ok (see_fact c 33 rfl)
  l_Halves_own_weights := slotB_ok (see_fact c 34 rfl)
  g_Loop := He.glo_ok X G (see_fact c 35 rfl)
  s_Loop := sclB_ok (see_fact c 36 rfl)
  k_Loop := He.mkr_ok (see_fact c 37 rfl)
  l_Loop_own_names := slotB_ok (see_fact c 38 rfl)
  l_Loop_own_rows := slotB_ok (see_fact c 39 rfl)
  l_Loop_own_table := slotB_ok (see_fact c 40 rfl)
  g_Search := He.glo_ok X G (see_fact c 41 rfl)
  s_Search := sclB_ok (see_fact c 42 rfl)
  k_Search := He.mkr_ok (see_fact c 43 rfl)
  l_Search_own_dead := slotB_ok (see_fact c 44 rfl)
  l_Search_own_rows := slotB_ok (see_fact c 45 rfl)
  l_Search_own_weights := slotB_ok (see_fact c 46 rfl)
  g_Made := He.glo_ok X G (see_fact c 47 rfl)
  w_Table := sisB_ok (see_fact c 48 rfl)
  o_Table := of_decide_eq_true (see_fact c 49 rfl)
  w_Loop := sisB_ok (see_fact c 50 rfl)
  o_Loop := of_decide_eq_true (see_fact c 51 rfl)
  o_Made := of_decide_eq_true (see_fact c 52 rfl)
  g_is_whole := He.glo_ok X G (see_fact c 53 rfl)
  g_is_within := He.glo_ok X G (see_fact c 54 rfl)
  g_require_within := He.glo_ok X G (see_fact c 55 rfl)
  g_is_renaming_of := He.glo_ok X G (see_fact c 56 rfl)
  g_is_renaming := He.glo_ok X G (see_fact c 57 rfl)
  g_turned_back := He.glo_ok X G (see_fact c 58 rfl)
  g_round_from := He.glo_ok X G (see_fact c 59 rfl)
  g_are_rows := He.glo_ok X G (see_fact c 60 rfl)
  g_transposed := He.glo_ok X G (see_fact c 61 rfl)
  g_columns_of := He.glo_ok X G (see_fact c 62 rfl)
  g_rows_of_signs := He.glo_ok X G (see_fact c 63 rfl)
  g_require_sign := He.glo_ok X G (see_fact c 64 rfl)
  g_rows_told := He.glo_ok X G (see_fact c 65 rfl)
  g_require_table := He.glo_ok X G (see_fact c 66 rfl)
  g_require_small := He.glo_ok X G (see_fact c 67 rfl)
  g_weights_of := He.glo_ok X G (see_fact c 68 rfl)
  g_is_cross := He.glo_ok X G (see_fact c 69 rfl)
  g_counted := He.glo_ok X G (see_fact c 70 rfl)
  g_stepped := He.glo_ok X G (see_fact c 71 rfl)
  g_transversals_counted := He.glo_ok X G (see_fact c 72 rfl)
  g_is_transversal := He.glo_ok X G (see_fact c 73 rfl)
  g_count_transversals := He.glo_ok X G (see_fact c 74 rfl)
  g_even_share := He.glo_ok X G (see_fact c 75 rfl)
  g_places_of := He.glo_ok X G (see_fact c 76 rfl)
  g_halves_of := He.glo_ok X G (see_fact c 77 rfl)
  g_sign_numbers := He.glo_ok X G (see_fact c 78 rfl)
  g_sum_bar := He.glo_ok X G (see_fact c 79 rfl)
  g_is_group_rows := He.glo_ok X G (see_fact c 80 rfl)
  g_require_name := He.glo_ok X G (see_fact c 81 rfl)
  g_require_loop := He.glo_ok X G (see_fact c 82 rfl)
  g_require_group := He.glo_ok X G (see_fact c 83 rfl)
  g_is_barred_group := He.glo_ok X G (see_fact c 84 rfl)
  g_is_barred := He.glo_ok X G (see_fact c 85 rfl)
  g_complete_mapping := He.glo_ok X G (see_fact c 86 rfl)
  g_is_complete_mapping := He.glo_ok X G (see_fact c 87 rfl)
  g_law_urn := He.glo_ok X G (see_fact c 88 rfl)
  g_law_draw := He.glo_ok X G (see_fact c 89 rfl)
  g_law_pick := He.glo_ok X G (see_fact c 90 rfl)
  g_law_mixed := He.glo_ok X G (see_fact c 91 rfl)
  g_law_ring := He.glo_ok X G (see_fact c 92 rfl)
  g_law_pairs := He.glo_ok X G (see_fact c 93 rfl)
  g_law_turns := He.glo_ok X G (see_fact c 94 rfl)
  g_law_renamed := He.glo_ok X G (see_fact c 95 rfl)
  g_law_order := He.glo_ok X G (see_fact c 96 rfl)
  g_law_is_barred := He.glo_ok X G (see_fact c 97 rfl)
  g_law_is_complete := He.glo_ok X G (see_fact c 98 rfl)
  g_law_near_right := He.glo_ok X G (see_fact c 99 rfl)
  g_law_right := He.glo_ok X G (see_fact c 100 rfl)
  g_law := He.glo_ok X G (see_fact c 101 rfl)
  p_Table_is_ordered := prpB_ok (see_fact c 102 rfl)
  m_Halves_is_put := He.meth_ok (see_fact c 103 rfl)
  m_Halves_free := He.meth_ok (see_fact c 104 rfl)
  m_Halves_bits := He.meth_ok (see_fact c 105 rfl)
  p_Loop_table := prpB_ok (see_fact c 106 rfl)
  p_Loop_order := prpB_ok (see_fact c 107 rfl)
  m_Loop_order_of := He.meth_ok (see_fact c 108 rfl)
  m_Loop_is_group := He.meth_ok (see_fact c 109 rfl)
  m_Loop_iter := He.meth_ok (see_fact c 110 rfl)
  m_Search_ahead := He.meth_ok (see_fact c 111 rfl)
  f_is_whole := see_fn c 0 rfl
  f_is_within := see_fn c 1 rfl
  f_require_within := see_fn c 2 rfl
  f_is_renaming_of := see_fn c 3 rfl
  f_is_renaming := see_fn c 4 rfl
  f_turned_back := see_fn c 5 rfl
  f_round_from := see_fn c 6 rfl
  f_are_rows := see_fn c 7 rfl
  f_transposed := see_fn c 8 rfl
  f_columns_of := see_fn c 9 rfl
  f_rows_of_signs := see_fn c 10 rfl
  f_require_sign := see_fn c 11 rfl
  f_rows_told := see_fn c 12 rfl
  f_require_table := see_fn c 13 rfl
  f_require_small := see_fn c 14 rfl
  f_weights_of := see_fn c 15 rfl
  f_is_cross := see_fn c 16 rfl
  f_counted := see_fn c 17 rfl
  f_stepped := see_fn c 18 rfl
  f_transversals_counted := see_fn c 19 rfl
  f_is_transversal := see_fn c 20 rfl
  f_count_transversals := see_fn c 21 rfl
  f_even_share := see_fn c 22 rfl
  f_places_of := see_fn c 23 rfl
  f_halves_of := see_fn c 24 rfl
  f_sign_numbers := see_fn c 25 rfl
  f_sum_bar := see_fn c 26 rfl
  f_is_group_rows := see_fn c 27 rfl
  f_require_name := see_fn c 28 rfl
  f_require_loop := see_fn c 29 rfl
  f_require_group := see_fn c 30 rfl
  f_is_barred_group := see_fn c 31 rfl
  f_is_barred := see_fn c 32 rfl
  f_complete_mapping := see_fn c 33 rfl
  f_is_complete_mapping := see_fn c 34 rfl
  f_law_urn := see_fn c 35 rfl
  f_law_draw := see_fn c 36 rfl
  f_law_pick := see_fn c 37 rfl
  f_law_mixed := see_fn c 38 rfl
  f_law_ring := see_fn c 39 rfl
  f_law_pairs := see_fn c 40 rfl
  f_law_turns := see_fn c 41 rfl
  f_law_renamed := see_fn c 42 rfl
  f_law_order := see_fn c 43 rfl
  f_law_is_barred := see_fn c 44 rfl
  f_law_is_complete := see_fn c 45 rfl
  f_law_near_right := see_fn c 46 rfl
  f_law_right := see_fn c 47 rfl
  f_law := see_fn c 48 rfl
  f_Table_init := see_fn c 49 rfl
  f_Table_is_ordered := see_fn c 50 rfl
  f_Halves_init := see_fn c 51 rfl
  f_Halves_is_put := see_fn c 52 rfl
  f_Halves_free := see_fn c 53 rfl
  f_Halves_bits := see_fn c 54 rfl
  f_Loop_init := see_fn c 55 rfl
  f_Loop_table := see_fn c 56 rfl
  f_Loop_order := see_fn c 57 rfl
  f_Loop_order_of := see_fn c 58 rfl
  f_Loop_is_group := see_fn c 59 rfl
  f_Loop_iter := see_fn c 60 rfl
  f_Search_init := see_fn c 61 rfl
  f_Search_ahead := see_fn c 62 rfl
end K61

set_option Elab.async false
set_option maxRecDepth 100000
set_option maxHeartbeats 0
namespace K61
open PySem PySem.Spec PyProof.Rows L2
abbrev hk : PySem.W.Hook := hook fa fn
def ob (s : PySem.W.SharedT) : Al := seeG fa fn (HandSHeadRun.getT s)
theorem ob_eq (s : PySem.W.SharedT) : ob s = hk.obs s.abs := by
  have e : HandSHeadRun.getT s = s.abs.heap.get? := funext (HandSHeadRun.getT_eq s)
  show seeG fa fn (HandSHeadRun.getT s) = seeG fa fn s.abs.heap.get?
  rw [e]
open PySem.W PySem.Calls in
theorem run1 (w : World) (os : OsState) : (HandSHeadRun.endF (HandSHeadRun.stepQ (HandSHeadRun.denQ HandSHeadRun.tabQ) R.prog w) 20000 R.prog w os).map (fun s => HandSHeadRun.looksF R.prog (boot_heap w.params) s.abs) = some true := by kernel_rfl
open PySem.W PySem.Calls in
theorem run2 (w : World) (os : OsState) : (HandSHeadRun.endF (HandSHeadRun.stepQ (HandSHeadRun.denQ HandSHeadRun.tabQ) R.prog w) 20000 R.prog w os).map (fun s => HandSHeadRun.seenQ (PySem.W.view R.prog [75]) loose (importedModules R.prog.main.body) (fun s => PySem.W.xlAt (PySem.W.view R.prog [75]) [] s && PySem.W.recOk R.toRowW.records s) s.abs) = some (PySem.W.openGood (PySem.W.view R.prog [75]) loose) := by kernel_rfl
theorem run3 (w : World) (os : OsState) : (HandSHeadRun.endF (HandSHeadRun.stepQ (HandSHeadRun.denQ HandSHeadRun.tabQ) R.prog w) 20000 R.prog w os).map (fun s => ob s) = some (hk.val w) := by kernel_rfl
theorem run (w : World) : HandSHeadRun.RunEq R (PySem.W.view R.prog [75]) hk ob 20000 loose w := by
  intro os
  obtain ⟨s, e, h1⟩ := Option.map_eq_some_iff.mp (run1 w os)
  obtain ⟨s2, e2, h2⟩ := Option.map_eq_some_iff.mp (run2 w os)
  obtain ⟨s3, e3, h3⟩ := Option.map_eq_some_iff.mp (run3 w os)
  rw [e] at e2 e3
  cases e2
  cases e3
  rw [e, Option.map_some, h1, h2, h3]
end K61

set_option Elab.async false
set_option maxRecDepth 100000
set_option maxHeartbeats 4000000
/-! Words of this proof: a def as it is called, what numbers and rows are in the heap. -/
namespace K61
open PySem PySem.Spec PyProof.Rows L2
/-- the def x of the module, called with every parameter -/
structure Cal (P : Program) (w : World) (K : PySem.W.Frag) (mg : Str → Option Value) (base : Heap) (k : Nat) (x : Str) (sp : Sp) : Prop where
  ex : ∃ (f : Addr) (fd : FuncData) (ps : List Str), mg x = some (.ref f) ∧ PySem.W.keepIn K (.ref f) = true ∧ Binds K fd ps [] ∧ FnOk P w K mg base CX0 k f fd ps sp
section
variable {X : Cx} {k : Nat} {x : Str} {sp : Sp} {e : Expr} {es : List Expr} {t : TA} {p pos : Pos}
theorem pe_cal (c : Cal X.prog X.w X.K X.mg X.base k x sp) (hr : Room k X.A) (ha : PA X (e :: es) t) (hg : Gl X x := by rfl)
    (hdb : (x == ("__debug__" : Str)) = false := by decide) (he : starEach (e :: es) X.env = (false, eval e X.env) :: starEach es X.env := by rfl) (hpl : (backTo pos (starEach es X.env)).any (·.1) = false := by rfl) :
    PE X (.Call (.Name x p) (e :: es) [] pos) (tCall sp [] E0 t) := by
  obtain ⟨f, fd, ps, h1, h2, h3, h4⟩ := c.ex
  exact pe_call h4 hr hg h1 h2 h3 .nil pass0 ha hdb he hpl
theorem Cal.mono {P : Program} {w : World} {K : PySem.W.Frag} {mg : Str → Option Value} {base : Heap} {j k : Nat} {x : Str} {sp : Sp} (c : Cal P w K mg base j x sp) (h : j ≤ k) : Cal P w K mg base k x sp := by
  obtain ⟨f, fd, ps, h1, h2, h3, h4⟩ := c.ex
  exact ⟨f, fd, ps, h1, h2, h3, h4.mono h⟩
end
/-- a def of the module by its body -/
theorem cal_of {P : Program} {w : World} {K : PySem.W.Frag} {mg : Str → Option Value} {base : Heap} {x qual : Str} {params : Arguments} {body : List Stmt} {scope : Scope} {f : Addr} {fd : FuncData} {N ps : List Str} {k : Nat} {sp : Sp}
    (g : mg x = some (.ref f)) (F : FunD K x qual params body scope [] [] f fd) (S : FnScope N ps scope) (len : ∀ vs H Q E, sp vs H Q E → vs.length = ps.length)
    (b : ∀ (kV doc pm : Value) (an : Option Addr) (cdv ct : Value) (us : List Value), us.length = ps.length → bindArgs (PySem.W.fnOf x qual params body scope .none kV doc pm an cdv ct) ⟨us, []⟩ = pure (ps.zip us))
    (hbody : ∀ (cdv : Value) (A : Around) (outer : List Env) (s : Shared) (H : Hp) (vs : List V) (Q : VK) (E : XK), Room k (A.deeper (envOfC qual scope s.heap.objs.size f cdv)) → sp vs H Q E →
      ∃ t, PSs (cxOf CX0 P w K mg base N qual scope f cdv A outer s H E).nox body t ∧ t { nx := fun _ H' => Q .non H', rt := Q } (start N vs) H) : Cal P w K mg base (k + 1) x sp :=
  ⟨f, fd, ps, g, F.kp, F.bindsN b, F.ok S len fun cdv A outer s H vs Q E hr h => let ⟨t, h1, h2⟩ := hbody cdv A outer s H vs Q E hr h; ⟨t, h1.nox, h2⟩⟩
/-- a method -/
theorem met_of {P : Program} {w : World} {K : PySem.W.Frag} {mg : Str → Option Value} {base : Heap} {x qual : Str} {params : Arguments} {body : List Stmt} {scope : Scope} {f : Addr} {fd : FuncData} {N ps : List Str} {k : Nat} {sp : Sp}
    (F : FunD K x qual params body scope [] [] f fd) (S : FnScope N ps scope) (len : ∀ vs H Q E, sp vs H Q E → vs.length = ps.length)
    (b : ∀ (kV doc pm : Value) (an : Option Addr) (cdv ct : Value) (us : List Value), us.length = ps.length → bindArgs (PySem.W.fnOf x qual params body scope .none kV doc pm an cdv ct) ⟨us, []⟩ = pure (ps.zip us))
    (hbody : ∀ (cdv : Value) (A : Around) (outer : List Env) (s : Shared) (H : Hp) (vs : List V) (Q : VK) (E : XK), Room k (A.deeper (envOfC qual scope s.heap.objs.size f cdv)) → sp vs H Q E →
      ∃ t, PSs (cxOf CX0 P w K mg base N qual scope f cdv A outer s H E).nox body t ∧ t { nx := fun _ H' => Q .non H', rt := Q } (start N vs) H) : FnR P w K mg base CX0 (k + 1) f sp := by
  have G : FnOk P w K mg base CX0 (k + 1) f fd ps sp := F.ok S len fun cdv A outer s H vs Q E hr h => let ⟨t, h1, h2⟩ := hbody cdv A outer s H vs Q E hr h; ⟨t, h1.nox, h2⟩
  have r := G.raw (F.bindsN b) .nil
  exact r.imp fun vs H Q E h => by rw [List.append_nil]; exact h
/-! ### values -/
abbrev vn (n : Nat) : V := .int (n : Int)
abbrev Rows := List (List Nat)
/-- a tuple of numbers at a -/
def TupN (H : Hp) (a : Addr) (l : List Nat) : Prop := H a = some (.tup (l.map vn))
def LstN (H : Hp) (a : Addr) (l : List Nat) : Prop := H a = some (.lst (l.map vn))
theorem TupN.mono {H H' : Hp} {a : Addr} {l : List Nat} (h : TupN H a l) (e : Same H H') : TupN H' a l := e _ _ h
/-- things at addresses, one by one -/
def Each {α : Type} (R : Hp → Addr → α → Prop) (H : Hp) (ps : List Addr) (xs : List α) : Prop := Paired (fun p x => R H p x) ps xs
theorem Each.mono {α : Type} {R : Hp → Addr → α → Prop} {H H' : Hp} (hR : ∀ a x, R H a x → R H' a x) : ∀ {ps : List Addr} {xs : List α}, Each R H ps xs → Each R H' ps xs
  | _, _, .nil => .nil
  | _, _, .cons r t => .cons (hR _ _ r) (Each.mono hR t)
theorem Each.length {α : Type} {R : Hp → Addr → α → Prop} {H : Hp} {ps : List Addr} {xs : List α} (h : Each R H ps xs) : ps.length = xs.length := Paired.length h
theorem Each.get {α : Type} {R : Hp → Addr → α → Prop} {H : Hp} : ∀ {ps : List Addr} {xs : List α} {i : Nat} {p : Addr}, Each R H ps xs → ps[i]? = some p → ∃ x, xs[i]? = some x ∧ R H p x
  | _, _, _, _, .nil, h => by simp at h
  | _, _, 0, p, .cons r _, h => by simp at h; subst h; exact ⟨_, rfl, r⟩
  | _, _, i + 1, p, .cons _ t, h => by
    obtain ⟨x, h1, h2⟩ := Each.get (i := i) t (by simpa using h)
    exact ⟨x, by simpa using h1, h2⟩
theorem Each.get' {α : Type} {R : Hp → Addr → α → Prop} {H : Hp} : ∀ {ps : List Addr} {xs : List α} {i : Nat} {x : α}, Each R H ps xs → xs[i]? = some x → ∃ p, ps[i]? = some p ∧ R H p x
  | _, _, _, _, .nil, h => by simp at h
  | _, _, 0, p, .cons r _, h => by simp at h; subst h; exact ⟨_, rfl, r⟩
  | _, _, i + 1, p, .cons _ t, h => by
    obtain ⟨x, h1, h2⟩ := Each.get' (i := i) t (by simpa using h)
    exact ⟨x, by simpa using h1, h2⟩
theorem Each.append {α : Type} {R : Hp → Addr → α → Prop} {H : Hp} : ∀ {ps qs : List Addr} {xs ys : List α}, Each R H ps xs → Each R H qs ys → Each R H (ps ++ qs) (xs ++ ys)
  | _, _, _, _, .nil, h => h
  | _, _, _, _, .cons r t, h => .cons r (Each.append t h)
/-- a tuple of tuples of numbers -/
def TupR (H : Hp) (a : Addr) (rs : Rows) : Prop := ∃ ps : List Addr, H a = some (.tup (ps.map V.ref)) ∧ Each TupN H ps rs
theorem TupR.mono {H H' : Hp} {a : Addr} {rs : Rows} (h : TupR H a rs) (e : Same H H') : TupR H' a rs := by
  obtain ⟨ps, h1, h2⟩ := h
  exact ⟨ps, e _ _ h1, h2.mono fun a l q => q.mono e⟩
theorem same_upd {H : Hp} {p : Addr} {o : HO} (h : H p = none) : Same H (upd H p o) := fun b u e => by
  rw [upd_ne (ne_of_none e h)]
  exact e
/-- a young object may change -/
theorem Same.mut {H H' : Hp} {p : Addr} {o : HO} (e : Same H H') (h : H p = none) : Same H (upd H' p o) := fun b u q => by
  rw [upd_ne (ne_of_none q h)]
  exact e _ _ q
theorem len_map {α β : Type} {f : α → β} {l : List α} {n : Nat} (h : l.length ≤ n) (hn : n ≤ sizeLine := by decide) : (l.map f).length ≤ sizeLine := by
  rw [List.length_map]
  exact Nat.le_trans h hn
end K61

/-! Equations of bits: the mirror of the program's Halves, and what solves them. -/
namespace K61

/-- the worth of an equation e (bits 0 .. n-1: signs, bit n: the right side) at bits b -/
def val (n : Nat) (b : Nat → Bool) (e : Nat) : Bool := ((List.range n).foldl (fun a s => a ^^ (e.testBit s && b s)) false) ^^ e.testBit n

theorem fold_xor (b : Nat → Bool) (e f : Nat) : ∀ (l : List Nat) (x y : Bool),
    l.foldl (fun a s => a ^^ ((e ^^^ f).testBit s && b s)) (x ^^ y) = (l.foldl (fun a s => a ^^ (e.testBit s && b s)) x ^^ l.foldl (fun a s => a ^^ (f.testBit s && b s)) y)
  | [], x, y => rfl
  | s :: r, x, y => by
    simp only [List.foldl_cons]
    rw [← fold_xor b e f r]
    congr 1
    rw [Nat.testBit_xor]
    cases x <;> cases y <;> cases e.testBit s <;> cases f.testBit s <;> cases b s <;> rfl
theorem val_xor (n : Nat) (b : Nat → Bool) (e f : Nat) : val n b (e ^^^ f) = (val n b e ^^ val n b f) := by
  have h := fold_xor b e f (List.range n) false false
  unfold val
  rw [show (false ^^ false) = false from rfl] at h
  rw [h, Nat.testBit_xor]
  generalize List.foldl _ _ _ = p
  generalize List.foldl _ _ _ = q
  cases p <;> cases q <;> cases e.testBit n <;> cases f.testBit n <;> rfl
theorem fold_zero (b : Nat → Bool) (e : Nat) : ∀ (l : List Nat), (∀ s ∈ l, (e.testBit s && b s) = false) → l.foldl (fun a s => a ^^ (e.testBit s && b s)) false = false
  | [], _ => rfl
  | s :: r, h => by
    rw [List.foldl_cons, h s List.mem_cons_self]
    exact fold_zero b e r fun t ht => h t (List.mem_cons_of_mem _ ht)
/-- one place alone -/
theorem fold_one (b : Nat → Bool) (e k : Nat) : ∀ (l : List Nat), l.Nodup → k ∈ l → (∀ s ∈ l, s ≠ k → (e.testBit s && b s) = false) → l.foldl (fun a s => a ^^ (e.testBit s && b s)) false = (e.testBit k && b k)
  | [], _, h, _ => nomatch h
  | s :: r, hn, hk, h => by
    obtain ⟨h1, h2⟩ := List.nodup_cons.mp hn
    rw [List.foldl_cons]
    by_cases e1 : s = k
    · subst e1
      have : ∀ (l : List Nat) (x : Bool), (∀ t ∈ l, (e.testBit t && b t) = false) → l.foldl (fun a s => a ^^ (e.testBit s && b s)) x = x := by
        intro l
        induction l with
        | nil => intro x _; rfl
        | cons t r ih =>
          intro x hx
          rw [List.foldl_cons, hx t List.mem_cons_self, Bool.xor_false]
          exact ih x fun u hu => hx u (List.mem_cons_of_mem _ hu)
      rw [Bool.false_xor]
      exact this r _ fun t ht => h t (List.mem_cons_of_mem _ ht) (fun z => h1 (z ▸ ht))
    · rw [h s List.mem_cons_self e1]
      refine fold_one b e k r h2 ?_ fun t ht => h t (List.mem_cons_of_mem _ ht)
      rcases List.mem_cons.mp hk with q | q
      · exact absurd q.symm e1
      · exact q
theorem val_pow {n k : Nat} (b : Nat → Bool) (hk : k < n) : val n b (2 ^ k) = b k := by
  unfold val
  rw [fold_one b (2 ^ k) k (List.range n) List.nodup_range (List.mem_range.mpr hk), Nat.testBit_two_pow, Nat.testBit_two_pow]
  · rw [decide_eq_true rfl, decide_eq_false (Nat.ne_of_lt hk)]
    simp
  · intro s _ hs
    rw [Nat.testBit_two_pow, decide_eq_false (Ne.symm hs)]
    rfl
theorem val_top {n : Nat} (b : Nat → Bool) : val n b (2 ^ n) = true := by
  unfold val
  rw [fold_zero, Nat.testBit_two_pow, decide_eq_true rfl]
  · rfl
  · intro s hs
    rw [Nat.testBit_two_pow, decide_eq_false (Nat.ne_of_gt (List.mem_range.mp hs))]
    rfl
theorem val_zero {n : Nat} (b : Nat → Bool) : val n b 0 = false := by
  unfold val
  rw [fold_zero]
  · simp
  · intro s _
    simp
/-- an equation's bits stand below n + 1 -/
def Eqn (n e : Nat) : Prop := ∀ i, n < i → e.testBit i = false
theorem Eqn.xor {n e f : Nat} (h : Eqn n e) (g : Eqn n f) : Eqn n (e ^^^ f) := fun i hi => by rw [Nat.testBit_xor, h i hi, g i hi]; rfl
theorem Eqn.pow {n k : Nat} (h : k ≤ n) : Eqn n (2 ^ k) := fun i hi => by rw [Nat.testBit_two_pow]; exact decide_eq_false (by omega)
theorem Eqn.zero {n : Nat} : Eqn n 0 := fun i _ => by simp

/-- the equation of is_put -/
def eqOf (n : Nat) (signs : List Nat) (bit : Nat) : Nat := signs.foldl (fun e s => e ^^^ 2 ^ s) (2 ^ n * bit)
theorem eqOf_eqn {n bit : Nat} : ∀ {signs : List Nat}, (∀ s ∈ signs, s < n) → bit ≤ 1 → Eqn n (eqOf n signs bit) := by
  intro signs hs hb
  have : ∀ (l : List Nat) (e : Nat), (∀ s ∈ l, s < n) → Eqn n e → Eqn n (l.foldl (fun e s => e ^^^ 2 ^ s) e) := by
    intro l
    induction l with
    | nil => intro e _ h; exact h
    | cons s r ih =>
      intro e hl h
      exact ih _ (fun t ht => hl t (List.mem_cons_of_mem _ ht)) (h.xor (Eqn.pow (Nat.le_of_lt (hl s List.mem_cons_self))))
  refine this signs _ hs ?_
  rcases (show bit = 0 ∨ bit = 1 by omega) with rfl | rfl
  · rw [Nat.mul_zero]; exact Eqn.zero
  · rw [Nat.mul_one]; exact Eqn.pow (Nat.le_refl _)
theorem eqOf_val {n bit : Nat} (b : Nat → Bool) {signs : List Nat} (hs : ∀ s ∈ signs, s < n) (hb : bit ≤ 1) : val n b (eqOf n signs bit) = (signs.foldl (fun a s => a ^^ b s) (bit == 1)) := by
  have : ∀ (l : List Nat) (e : Nat), (∀ s ∈ l, s < n) → val n b (l.foldl (fun e s => e ^^^ 2 ^ s) e) = l.foldl (fun a s => a ^^ b s) (val n b e) := by
    intro l
    induction l with
    | nil => intro e _; rfl
    | cons s r ih =>
      intro e hl
      rw [List.foldl_cons, List.foldl_cons, ih _ (fun t ht => hl t (List.mem_cons_of_mem _ ht)), val_xor, val_pow b (hl s List.mem_cons_self)]
  unfold eqOf
  rw [this signs _ hs]
  congr 1
  rcases (show bit = 0 ∨ bit = 1 by omega) with rfl | rfl
  · rw [Nat.mul_zero, val_zero]; rfl
  · rw [Nat.mul_one, val_top]; rfl

/-! ### the table of equations -/
abbrev Tb := List (Nat × Nat)
/-- the run of is_put over the signs s, s + 1, .. (m of them) from the equation e -/
def putGo (D : Tb) : Nat → Nat → Nat → Tb × Bool
  | 0, _, e => (D, e == 0)
  | m + 1, s, e => if e &&& 2 ^ s > 0 then (match D.lookup s with
      | none => (D ++ [(s, e)], true)
      | some r => putGo D m (s + 1) (e ^^^ r))
    else putGo D m (s + 1) e
def put (n : Nat) (D : Tb) (signs : List Nat) (bit : Nat) : Tb × Bool := putGo D n 0 (eqOf n signs bit)
theorem and_pos {e s : Nat} : (e &&& 2 ^ s > 0) ↔ e.testBit s = true := by
  constructor
  · intro h
    cases q : e.testBit s with
    | true => rfl
    | false =>
      have : e &&& 2 ^ s = 0 := Nat.eq_of_testBit_eq fun i => by
        rw [Nat.testBit_and, Nat.testBit_two_pow, Nat.zero_testBit]
        by_cases hi : s = i
        · subst hi; rw [q]; rfl
        · rw [decide_eq_false hi, Bool.and_false]
      omega
  · intro h
    rcases Nat.eq_zero_or_pos (e &&& 2 ^ s) with z | z
    · have q : (e &&& 2 ^ s).testBit s = true := by
        rw [Nat.testBit_and, h, Nat.testBit_two_pow, decide_eq_true rfl]; rfl
      rw [z, Nat.zero_testBit] at q
      cases q
    · exact z
/-- a right table: each key is the lowest bit of its equation -/
structure Good (n : Nat) (D : Tb) : Prop where
  lt : ∀ p ∈ D, p.1 < n
  eqn : ∀ p ∈ D, Eqn n p.2
  top : ∀ p ∈ D, p.2.testBit p.1 = true
  low : ∀ p ∈ D, ∀ t, t < p.1 → p.2.testBit t = false
  nd : (D.map (·.1)).Nodup
theorem Good.nil {n : Nat} : Good n [] := by constructor <;> simp
def Sat (n : Nat) (b : Nat → Bool) (D : Tb) : Prop := ∀ p ∈ D, val n b p.2 = false
theorem lookup_mem {D : Tb} {s r : Nat} (h : D.lookup s = some r) : (s, r) ∈ D := by
  induction D with
  | nil => cases h
  | cons p t ih =>
    obtain ⟨a, c⟩ := p
    rw [List.lookup_cons] at h
    by_cases e : s == a
    · rw [e] at h
      have e1 : c = r := Option.some.inj h
      have e2 : s = a := beq_iff_eq.mp e
      subst e1 e2
      exact List.mem_cons_self
    · rw [Bool.eq_false_iff.mpr e] at h
      exact List.mem_cons_of_mem _ (ih h)
theorem lookup_none {D : Tb} {s : Nat} (h : D.lookup s = none) : s ∉ D.map (·.1) := by
  induction D with
  | nil => simp
  | cons p t ih =>
    obtain ⟨a, c⟩ := p
    rw [List.lookup_cons] at h
    by_cases e : s == a
    · rw [e] at h; cases h
    · rw [Bool.eq_false_iff.mpr e] at h
      intro m
      rcases List.mem_cons.mp m with z | z
      · exact e (beq_iff_eq.mpr z)
      · exact ih h z
theorem lookup_some {D : Tb} (hn : (D.map (·.1)).Nodup) {s r : Nat} (h : (s, r) ∈ D) : D.lookup s = some r := by
  induction D with
  | nil => cases h
  | cons p t ih =>
    obtain ⟨a, c⟩ := p
    have hn : (a :: t.map (·.1)).Nodup := hn
    obtain ⟨h1, h2⟩ := List.nodup_cons.mp hn
    rw [List.lookup_cons]
    rcases List.mem_cons.mp h with z | z
    · cases z
      rw [beq_self_eq_true]
    · have : ¬ (s = a) := fun q => h1 (q ▸ List.mem_map.mpr ⟨(s, r), z, rfl⟩)
      rw [show (s == a) = false from beq_eq_false_iff_ne.mpr this]
      exact ih h2 z
/-- what a run of is_put does -/
structure Ran (n : Nat) (D : Tb) (e : Nat) (o : Tb × Bool) : Prop where
  good : Good n o.1
  sub : ∀ p ∈ D, p ∈ o.1
  /-- who solves table and equation solves the new table, and it can be -/
  sound : ∀ b, Sat n b D → val n b e = false → o.2 = true ∧ Sat n b o.1
  /-- where it can be, who solves the new table solves the equation -/
  full : o.2 = true → ∀ b, Sat n b o.1 → val n b e = false
theorem putGo_ran {n : Nat} {D : Tb} (hD : Good n D) : ∀ (m s e : Nat), s + m = n → Eqn n e → (∀ t, t < s → e.testBit t = false) → Ran n D e (putGo D m s e)
  | 0, s, e, hs, he, hl => by
    have hs' : s = n := by omega
    subst hs'
    have e2 : e = 0 ∨ e = 2 ^ s := by
      cases q : e.testBit s with
      | false =>
        refine .inl (Nat.eq_of_testBit_eq fun i => ?_)
        rw [Nat.zero_testBit]
        rcases Nat.lt_trichotomy i s with z | z | z
        · exact hl i z
        · rw [z]; exact q
        · exact he i z
      | true =>
        refine .inr (Nat.eq_of_testBit_eq fun i => ?_)
        rw [Nat.testBit_two_pow]
        rcases Nat.lt_trichotomy i s with z | z | z
        · rw [hl i z, decide_eq_false (by omega)]
        · rw [z, q, decide_eq_true rfl]
        · rw [he i z, decide_eq_false (by omega)]
    refine ⟨hD, fun _ h => h, fun b hb hv => ?_, fun h b hb => ?_⟩
    · rcases e2 with z | z
      · subst z; exact ⟨rfl, hb⟩
      · rw [z, val_top] at hv; cases hv
    · have z : e = 0 := beq_iff_eq.mp h
      rw [z, val_zero]
  | m + 1, s, e, hs, he, hl => by
    unfold putGo
    by_cases h : e &&& 2 ^ s > 0
    · rw [if_pos h]
      have ht := and_pos.mp h
      cases q : D.lookup s with
      | none =>
        have hk := lookup_none q
        have hmem : ∀ p, p ∈ D ++ [(s, e)] → p ∈ D ∨ p = (s, e) := fun p hp => by simpa using hp
        refine ⟨⟨fun p hp => ?_, fun p hp => ?_, fun p hp => ?_, fun p hp => ?_, ?_⟩, fun p hp => List.mem_append_left _ hp, fun b hb hv => ⟨rfl, fun p hp => ?_⟩, fun _ b hb => hb (s, e) (by simp)⟩
        · rcases hmem p hp with z | z
          · exact hD.lt p z
          · rw [z]; show s < n; omega
        · rcases hmem p hp with z | z
          · exact hD.eqn p z
          · rw [z]; exact he
        · rcases hmem p hp with z | z
          · exact hD.top p z
          · rw [z]; exact ht
        · rcases hmem p hp with z | z
          · exact hD.low p z
          · rw [z]; exact hl
        · rw [List.map_append]
          refine List.nodup_append.mpr ⟨hD.nd, by simp, fun a ha c hc => ?_⟩
          have : c = s := by simpa using hc
          rw [this]
          intro z
          exact hk (z ▸ ha)
        · rcases hmem p hp with z | z
          · exact hb p z
          · rw [z]; exact hv
      | some r =>
        have hm := lookup_mem q
        have R := putGo_ran hD m (s + 1) (e ^^^ r) (by omega) (he.xor (hD.eqn _ hm)) (fun t htl => by
          rw [Nat.testBit_xor]
          by_cases hts : t = s
          · subst hts; rw [ht, hD.top _ hm]; rfl
          · rw [hl t (by omega), hD.low _ hm t (by show t < s; omega)]; rfl)
        refine ⟨R.good, R.sub, fun b hb hv => R.sound b hb ?_, fun h b hb => ?_⟩
        · rw [val_xor, hv, hb _ hm]; rfl
        · have z := R.full h b hb
          have z2 := hb _ (R.sub _ hm)
          rw [val_xor, z2] at z
          simpa using z
    · rw [if_neg h]
      have ht : e.testBit s = false := by
        cases q : e.testBit s with
        | false => rfl
        | true => exact absurd (and_pos.mpr q) h
      exact putGo_ran hD m (s + 1) e (by omega) he fun t htl => by
        by_cases hts : t = s
        · subst hts; exact ht
        · exact hl t (by omega)
theorem put_ran {n : Nat} {D : Tb} {signs : List Nat} {bit : Nat} (hD : Good n D) (hs : ∀ s ∈ signs, s < n) (hb : bit ≤ 1) : Ran n D (eqOf n signs bit) (put n D signs bit) :=
  putGo_ran hD n 0 _ (by omega) (eqOf_eqn hs hb) fun t h => absurd h (Nat.not_lt_zero t)
end K61

/-! Solutions of a right table: determined by the free signs, and there for all values of them. Plain Lean. -/
namespace K61
theorem fold_start (g : Nat → Bool) : ∀ (l : List Nat) (x : Bool), l.foldl (fun a s => a ^^ g s) x = (x ^^ l.foldl (fun a s => a ^^ g s) false)
  | [], x => by simp
  | s :: r, x => by
    rw [List.foldl_cons, List.foldl_cons, fold_start g r (x ^^ g s), fold_start g r (false ^^ g s)]
    cases x <;> cases g s <;> simp
theorem fold_congr {g h : Nat → Bool} : ∀ (l : List Nat) (x : Bool), (∀ s ∈ l, g s = h s) → l.foldl (fun a s => a ^^ g s) x = l.foldl (fun a s => a ^^ h s) x
  | [], _, _ => rfl
  | s :: r, x, e => by
    rw [List.foldl_cons, List.foldl_cons, e s List.mem_cons_self]
    exact fold_congr r _ fun t ht => e t (List.mem_cons_of_mem _ ht)
/-- what stands behind the sign s in the equation e -/
def tailX (n : Nat) (b : Nat → Bool) (e s : Nat) : Bool := (((List.range (n - (s + 1))).map fun k => s + 1 + k).foldl (fun a t => a ^^ (e.testBit t && b t)) false) ^^ e.testBit n
theorem val_low {n s : Nat} {b : Nat → Bool} {e : Nat} (hs : s < n) (top : e.testBit s = true) (low : ∀ t, t < s → e.testBit t = false) : val n b e = (b s ^^ tailX n b e s) := by
  have en : List.range n = List.range s ++ ([s] ++ (List.range (n - (s + 1))).map fun k => s + 1 + k) := by
    have h1 : n = (s + 1) + (n - (s + 1)) := by omega
    conv => lhs; rw [h1, List.range_add, List.range_succ]
    rw [List.append_assoc]
  unfold val tailX
  rw [en, List.foldl_append, List.foldl_append, fold_zero b e (List.range s) fun t ht => by rw [low t (List.mem_range.mp ht)]; rfl]
  rw [show List.foldl (fun a s => a ^^ (e.testBit s && b s)) false [s] = b s by simp [top], fold_start (fun t => e.testBit t && b t), Bool.xor_assoc]
theorem tailX_congr {n s e : Nat} {b b' : Nat → Bool} (h : ∀ t, s < t → t < n → b t = b' t) : tailX n b e s = tailX n b' e s := by
  unfold tailX
  rw [fold_congr (h := fun t => e.testBit t && b' t) _ _ fun t ht => ?_]
  obtain ⟨k, hk, rfl⟩ := List.mem_map.mp ht
  have := List.mem_range.mp hk
  rw [h (s + 1 + k) (by omega) (by omega)]
theorem val_congr {n e : Nat} {b b' : Nat → Bool} (h : ∀ t, t < n → e.testBit t = true → b t = b' t) : val n b e = val n b' e := by
  unfold val
  rw [fold_congr (h := fun t => e.testBit t && b' t) _ _ fun t ht => ?_]
  cases q : e.testBit t with
  | false => rfl
  | true => rw [h t (List.mem_range.mp ht) q]
theorem sat_uniq {n : Nat} {D : Tb} (hD : Good n D) {b b' : Nat → Bool} (h : Sat n b D) (h' : Sat n b' D) (hf : ∀ s, s < n → s ∉ D.map (·.1) → b s = b' s) : ∀ k s, n - s ≤ k → s < n → b s = b' s
  | 0, s, h1, h2 => by omega
  | k + 1, s, h1, h2 => by
    by_cases hs : s ∈ D.map (·.1)
    · obtain ⟨p, hp, rfl⟩ := List.mem_map.mp hs
      have e1 := h p hp
      have e2 := h' p hp
      rw [val_low h2 (hD.top p hp) (hD.low p hp)] at e1 e2
      rw [tailX_congr (b' := b') fun t ht htn => sat_uniq hD h h' hf k t (by omega) htn] at e1
      revert e1 e2
      cases b p.1 <;> cases b' p.1 <;> cases tailX n b' p.2 p.1 <;> simp
    · exact hf s h2 hs
theorem sat_exists {n : Nat} {D : Tb} (hD : Good n D) (f : Nat → Bool) : ∀ k, k ≤ n → ∃ b : Nat → Bool, (∀ p ∈ D, n - k ≤ p.1 → val n b p.2 = false) ∧ ∀ s, s < n → s ∉ D.map (·.1) → b s = f s
  | 0, _ => ⟨f, fun p hp h => by have := hD.lt p hp; omega, fun _ _ _ => rfl⟩
  | k + 1, hk => by
    obtain ⟨b, h1, h2⟩ := sat_exists hD f k (by omega)
    by_cases hs : (n - (k + 1)) ∈ D.map (·.1)
    · obtain ⟨p, hp, e⟩ := List.mem_map.mp hs
      refine ⟨fun t => if t = p.1 then tailX n b p.2 p.1 else b t, fun q hq hl => ?_, fun s hsn hns => ?_⟩
      · by_cases hqp : q.1 = p.1
        · have e2 : q = p := by
            have a1 := lookup_some hD.nd (show (q.1, q.2) ∈ D from hq)
            have a2 := lookup_some hD.nd (show (p.1, p.2) ∈ D from hp)
            rw [hqp, a2] at a1
            exact Prod.ext hqp (Option.some.inj a1).symm
          subst e2
          rw [val_low (hD.lt q hq) (hD.top q hq) (hD.low q hq), if_pos rfl, tailX_congr (b' := b) fun t ht _ => if_neg (by omega)]
          cases tailX n b q.2 q.1 <;> rfl
        · rw [val_congr (b' := b) fun t _ htb => ?_]
          · exact h1 q hq (by omega)
          · refine if_neg fun z => ?_
            have := hD.low q hq t (by omega)
            rw [htb] at this
            cases this
      · show (if s = p.1 then _ else b s) = f s
        rw [if_neg (fun z => hns (by rw [z]; exact List.mem_map_of_mem hp))]
        exact h2 s hsn hns
    · refine ⟨b, fun p hp hl => h1 p hp ?_, h2⟩
      have : p.1 ≠ n - (k + 1) := fun z => hs (by rw [← z]; exact List.mem_map_of_mem hp)
      omega
/-- the free signs -/
def freeL (n : Nat) (D : Tb) : List Nat := (List.range n).filter fun s => decide (s ∉ D.map (·.1))
theorem mem_free {n s : Nat} {D : Tb} : s ∈ freeL n D ↔ s < n ∧ s ∉ D.map (·.1) := by
  unfold freeL
  rw [List.mem_filter, List.mem_range, decide_eq_true_iff]
theorem free_nodup {n : Nat} {D : Tb} : (freeL n D).Nodup := List.Pairwise.filter _ List.nodup_range
def NonZ (n : Nat) (b : Nat → Bool) : Prop := ∃ s, s < n ∧ b s = true
def Agree (n : Nat) (b b' : Nat → Bool) : Prop := ∀ s, s < n → b s = b' s
theorem sat_agree {n : Nat} {D : Tb} (hD : Good n D) {b b' : Nat → Bool} (h : Sat n b D) (h' : Sat n b' D) (hf : ∀ s ∈ freeL n D, b s = b' s) : Agree n b b' :=
  fun s hs => sat_uniq hD h h' (fun t ht hn => hf t (mem_free.mpr ⟨ht, hn⟩)) n s (by omega) hs
theorem sat_free {n : Nat} {D : Tb} (hD : Good n D) (f : Nat → Bool) : ∃ b, Sat n b D ∧ ∀ s ∈ freeL n D, b s = f s := by
  obtain ⟨b, h1, h2⟩ := sat_exists hD f n (Nat.le_refl _)
  exact ⟨b, fun p hp => h1 p hp (by omega), fun s hs => h2 s (mem_free.mp hs).1 (mem_free.mp hs).2⟩
theorem free_bad {n : Nat} {D : Tb} (hD : Good n D) (h0 : Sat n (fun _ => false) D) {b1 b2 : Nat → Bool} (h1 : Sat n b1 D) (h2 : Sat n b2 D) (n1 : NonZ n b1) (n2 : NonZ n b2) (ne : ¬ Agree n b1 b2) : (freeL n D).length ≠ 1 := by
  intro hl
  obtain ⟨f, hf⟩ := List.length_eq_one_iff.mp hl
  have z : ∀ b, Sat n b D → NonZ n b → b f = true := fun b hb nb => by
    cases q : b f with
    | true => rfl
    | false =>
      obtain ⟨s, hs, hs2⟩ := nb
      have := sat_agree hD hb h0 (fun s hs => by rw [hf] at hs; rw [List.mem_singleton.mp hs]; exact q) s hs
      rw [hs2] at this
      cases this
  exact ne (sat_agree hD h1 h2 fun s hs => by rw [hf] at hs; rw [List.mem_singleton.mp hs, z b1 h1 n1, z b2 h2 n2])
theorem free_good {n : Nat} {D : Tb} (hD : Good n D) (h0 : Sat n (fun _ => false) D) {b : Nat → Bool} (h1 : Sat n b D) (n1 : NonZ n b) (un : ∀ b b', Sat n b D → Sat n b' D → NonZ n b → NonZ n b' → Agree n b b') : (freeL n D).length = 1 := by
  have nd := free_nodup (n := n) (D := D)
  have mf := fun s => (mem_free (n := n) (s := s) (D := D)).mp
  cases hl : freeL n D with
  | nil =>
    obtain ⟨s, hs, hs2⟩ := n1
    have := sat_agree hD h1 h0 (fun t ht => by rw [hl] at ht; cases ht) s hs
    rw [hs2] at this
    cases this
  | cons f1 r =>
    cases r with
    | nil => rfl
    | cons f2 r =>
      rw [hl] at nd
      have ne : f1 ≠ f2 := fun z => (List.nodup_cons.mp nd).1 (by rw [z]; exact List.mem_cons_self)
      have m1 : f1 ∈ freeL n D := by rw [hl]; exact List.mem_cons_self
      have m2 : f2 ∈ freeL n D := by rw [hl]; exact List.mem_cons_of_mem _ List.mem_cons_self
      obtain ⟨b1, s1, e1⟩ := sat_free hD (fun t => t == f1)
      obtain ⟨b2, s2, e2⟩ := sat_free hD (fun t => t == f2)
      have a := un b1 b2 s1 s2 ⟨f1, (mf f1 m1).1, by rw [e1 f1 m1]; simp⟩ ⟨f2, (mf f2 m2).1, by rw [e2 f2 m2]; simp⟩ f1 (mf f1 m1).1
      rw [e1 f1 m1, e2 f1 m1] at a
      simp at a
      exact absurd a ne
end K61

set_option Elab.async false
set_option maxRecDepth 100000
set_option maxHeartbeats 4000000
/-! Rules that the layer lacks: enumerate of a tuple, powers of great numbers, x *= y. -/
namespace PySem
open Sem (wp)
set_option maxHeartbeats 1000000 in
/-- enumerate(v): one argument, v told by how its iterator begins -/
theorem k61_enumNew {v : Value} {o : Obj} {G : Heap → Prop} (bg : Begins v o G) :
    Meets (Builtin.«enumerate.__new__» ⟨[.type "enumerate", v], []⟩) (fun _ R s => G s.heap ∧
      R (.ok (.ret (.ref (s.heap.push o).objs.size))) { s with heap := (s.heap.push o).push { cls := .type "enumerate", data := .fields #[.none, .bool false, .ref s.heap.objs.size, rawInt 0, .none, .none] } }) :=
  .of_wp fun prog w A R s both => by
    obtain ⟨hq, gq, dq, tq, oq⟩ := s
    obtain ⟨hG, hR⟩ := both
    have hs0 := sub_enumerate
    have itr : ∀ {A2 : Around} {E2 : Value → Shared → Prop} {Q2 : Value → Shared → Prop}, Q2 (.ref hq.objs.size) ⟨hq.push o, gq, dq, tq, oq⟩ → wpAny (model prog w) A2 (pyIter v) Q2 E2 ⟨hq, gq, dq, tq, oq⟩ :=
      fun z => bg.iter prog w _ _ ⟨hq, gq, dq, tq, oq⟩ _ hG z
    wp_walk using itr
    refine wpAny_stack_any fun _ => wpAny_pure ?_
    split
    · rename_i cc _ _ _ _ _
      cases (cc == Value.type "enumerate")
      · wp_walk using itr
        exact ⟨_, rfl, hR⟩
      · wp_walk using itr
        exact ⟨_, rfl, hR⟩
    · wp_walk using itr
      exact ⟨_, rfl, hR⟩
theorem k61_enumCall {prog : Program} {w : World} {A : Around} {E : Value → Shared → Prop} {s : Shared} {v : Value} {o : Obj} {G : Heap → Prop} {Q : Value → Shared → Prop} (bg : Begins v o G) (hG : G s.heap)
    (next : ∀ h', IsEnum h' (s.heap.objs.size + 1) s.heap.objs.size 0 .none → h'.get? s.heap.objs.size = some o → (∀ b u, s.heap.get? b = some u → h'.get? b = some u) → Q (.ref (s.heap.objs.size + 1)) { s with heap := h' }) :
    wpAny (model prog w) A (call (.type "enumerate") [v]) Q E s := by
  refine callType_new F.called_enumerate (by decide) (F.typeCall_enumerate_1 _) (F.newCall_enumerate_1 _) (fun ob => F.args_object_init_2 ob _) F.entry_enumerate_new (k61_enumNew bg) ⟨hG, ?_⟩
  have sz : (s.heap.push o).objs.size = s.heap.objs.size + 1 := Heap.size_push ..
  show _ ∧ _
  rw [sz]
  have isE : IsEnum ((s.heap.push o).push { cls := .type "enumerate", data := .fields #[.none, .bool false, .ref s.heap.objs.size, rawInt 0, .none, .none] }) (s.heap.objs.size + 1) s.heap.objs.size 0 .none := by
    have z := Heap.get?_push_size (s.heap.push o) (o := { cls := .type "enumerate", data := .fields #[.none, .bool false, .ref s.heap.objs.size, rawInt 0, .none, .none] }) rfl
    rw [sz] at z
    exact z
  exact ⟨⟨_, isE, rfl⟩, next _ isE (Heap.get?_push_of_some _ (Heap.get?_push_size _ bg.free)) fun b u z => Heap.get?_push_of_some _ (Heap.get?_push_of_some _ z)⟩
end PySem
namespace K61
open PySem PySem.Spec PyProof.Rows L2
/-- a new tuple laid by an iterator's turn -/
theorem tup_ok {P : Program} {w : World} {H : Hp} {h : Heap} {T : Addr} {xs : List V} {us : List Value} (r : Vals xs us) (hz : xs.length ≤ sizeLine) (hT : h.IsTuple T us.toArray) : ObjOk P w (upd H T (.tup xs)) h T (.tup xs) := ⟨hz, us, r, hT⟩
/-- the tuple at a, each item in a new pair -/
def IteT (K : PySem.W.Frag) (a : Addr) : It :=
  ⟨fun i H => ∃ (xs : List V) (x : V), SqT K H a xs ∧ xs[i]? = some x, fun i H v H' => ∃ T x, v = .ref T ∧ H T = none ∧ H' = upd H T (.tup [.int (i : Nat), x]) ∧ ∀ xs, SqT K H a xs → xs[i]? = some x, fun i H => ∃ xs : List V, SqT K H a xs ∧ xs.length ≤ i⟩
theorem turn_enumT {P : Program} {w : World} {K : PySem.W.Frag} {elts : List Expr} {kk : Nat} {tpos : Pos} (a e it : Addr) :
    Turn P w K (.Tuple elts kk tpos) (IteT K a) [e, it] e (fun i h => (∃ old, IsEnum h e it (0 + ((i : Nat) : Int)) old) ∧ h.IsTupleIter it a i ∧ e ≠ it ∧ e ≠ a ∧ a ≠ it) where
  mem := by simp
  obj := fun i h st b hb => by
    obtain ⟨⟨old, he⟩, ⟨oi, ho, _, hd⟩, _⟩ := st
    rcases (show b = e ∨ b = it by simpa using hb) with z | z
    · rw [z]
      exact ⟨_, he, fun v q => nomatch q⟩
    · rw [z]
      exact ⟨oi, ho, fun v q => by rw [hd] at q; cases q⟩
  keep := fun i h h' st k => let ⟨⟨old, he⟩, hi, n1⟩ := st; ⟨⟨old, k e (by simp) _ he⟩, hi.at fun ob q => k it (by simp) ob q, n1⟩
  item := by
    intro X hP hw hK hc i pins s σ H E I hf st hg
    subst hP hw hK
    obtain ⟨⟨old, he⟩, hi, n1, n2, n3⟩ := st
    obtain ⟨xs, x, hq, hx⟩ := hg
    obtain ⟨its, rv, tp, hz⟩ := I.tuple hq
    obtain ⟨u, hu, ru⟩ := rv.get hx
    have lt : i < its.toArray.size := by
      have z := (List.getElem?_eq_some_iff.mp hu).1
      simpa using z
    have W := GoesN.enumFrom (elts := elts) (x1 := kk) (pos := tpos) (prog := X.prog) (w := X.w) (A := X.A) 0 (Draws.tuple (hh := (show X.A.in1.handled = none from I.ok.hd hc)) it a n3 its.toArray) e n1 (by simp; exact ⟨n1, n2⟩) (by simp)
    refine W.goes i s _ _ lt ⟨⟨old, he⟩, hi, tp⟩ fun v h' tk hY st' hk _ => ?_
    obtain ⟨T, t, y, rfl, hnew, hy, hT⟩ := hY
    have ey : y = u := by
      have z : its.toArray[i]? = some u := by simpa using hu
      rw [z] at hy
      exact (Option.some.inj hy).symm
    subst ey
    have rel : Vals [V.int (i : Nat), x] [.int (0 + ((i : Nat) : Int)) t, y] := .cons ⟨t, by rw [Int.zero_add]⟩ (.cons ru .nil)
    have J := I.turnedNew (t' := tk) (ch := [e, it]) hk hf hnew (tup_ok rel (by show 2 ≤ sizeLine; decide) hT)
    refine ⟨.ref T, _, J, rfl, ⟨T, x, rfl, I.hok.fresh hnew, rfl, fun ys hys => by rw [I.tuple_inj hys hq]; exact hx⟩, ⟨st'.1, st'.2.1, n1, n2, n3⟩, fun b hb => ?_⟩
    have lb : b < s.heap.objs.size := by
      rcases (show b = e ∨ b = it by simpa using hb) with z | z
      · rw [z]; exact Heap.lt_size he
      · rw [z]; obtain ⟨_, q, _⟩ := hi; exact Heap.lt_size q
    rw [upd_ne (Nat.ne_of_lt (Nat.lt_of_lt_of_le lb hnew))]
    exact (hf b hb).1
  done := by
    intro X hP hw hK hc i pins s σ H E I hf st hg
    subst hP hw hK
    obtain ⟨⟨old, he⟩, hi, n1, n2, n3⟩ := st
    obtain ⟨xs, hq, hx⟩ := hg
    obtain ⟨its, rv, tp, hz⟩ := I.tuple hq
    have hl := rv.length
    have none_ : its.toArray[i]? = none := by simp; omega
    have hT : s.TypeIs (.ref e) "enumerate" := ⟨_, he, rfl⟩
    unfold pyNext
    refine wpAny_bind (wpAny_attempt (wpAny_callSpecial?_slot (name := Str.ofString "__next__") hT F.slot_enumerate_next (wpAny_call_entry F.slot_enumerate_next hT F.entry_enumerate_next ?_ (F.args_enumerate_next_1 _))))
    show wpAny _ _ (field (.ref e) 2 >>= _) _ _ s
    refine wpAny_bind (wpAny_field he rfl (x := .ref it) rfl (wpAny_bind (wpAny_nextOf_tuple_end (show X.A.in1.handled = none from I.ok.hd hc) hi tp none_ fun h' ex eb hex => ?_)))
    obtain ⟨oe, hoe, hce⟩ := hex
    refine wpAny_bind (wpAny_isInstance (T := "StopIteration") (b := true) ⟨oe, hoe, hce⟩ isSubtype_stop ?_)
    refine wpAny_pure ⟨rfl, I.turnedL (t' := s.toks) (ch := [e, it]) (fun b ob hb q => eb b ob (fun z => hb (by simp [z])) q) hf⟩
  self := fun A i s Q E st h => let ⟨⟨_, he⟩, _⟩ := st; wpAny_pyIter_enum he h
def iEnumT (K : PySem.W.Frag) (ta : TA) : TI := fun σ H R => ta σ H fun vs H1 => ∃ a xs, vs = [.ref a] ∧ SqT K H1 a xs ∧ R (IteT K a) H1
theorem pi_enumT {X : Cx} {e : Expr} {ta : TA} {p pos tpos : Pos} {elts : List Expr} {kk : Nat} (hg : Gl X "enumerate") (hm : X.mg "enumerate" = none) (ha : PA X [e] ta) (hs : starEach [e] X.env = [(false, eval e X.env)] := by rfl) :
    PI X (.Tuple elts kk tpos) (.Call (.Name "enumerate" p) [e] [] pos) (iEnumT X.K ta) := by
  refine ⟨fun pins s σ H R I h => ?_⟩
  refine Call_ (ld_blt I hg hm boot_enumerate (PyProof.Rows.callWith_type1 (thn (ha.run pos pins s σ H _ I h) fun us s1 ⟨vs, H1, I1, r1, a, xs, ex, hq, q⟩ => ?_) hs rfl))
  subst ex
  obtain ⟨u, rfl, ru⟩ := r1.one
  cases ru
  obtain ⟨its, rv, tp, hz⟩ := I1.tuple hq
  have la : a < s1.heap.objs.size := tp.lt
  refine k61_enumCall (begins_tuple a its.toArray) tp fun h' he hi hk => wpAny_pyIter_enum he ?_
  have hle : ∀ b ∈ [s1.heap.objs.size + 1, s1.heap.objs.size], s1.heap.objs.size ≤ b := fun b hb => by
    rcases (show b = s1.heap.objs.size + 1 ∨ b = s1.heap.objs.size by simpa using hb) with z | z <;> omega
  exact ⟨s1.heap.objs.size + 1, [s1.heap.objs.size + 1, s1.heap.objs.size], _, _, H1, rfl, I1.kept (t' := s1.toks) hk, turn_enumT a (s1.heap.objs.size + 1) s1.heap.objs.size,
    ⟨⟨.none, he⟩, ⟨_, hi, rfl, rfl⟩, Nat.succ_ne_self _, Nat.ne_of_gt (Nat.lt_succ_of_lt la), Nat.ne_of_lt la⟩, fun b hb => I1.fpOk (hle b hb) (I1.hok.fresh (hle b hb)), q⟩
theorem walk_enumT {K : PySem.W.Frag} {a : Addr} {xs : List V} : Walk (IteT K a) xs.length (fun H => SqT K H a xs) (YPair (fun i => some (.int (i : Nat))) (fun i => xs[i]?)) :=
  ⟨fun i H hi q => ⟨xs, xs[i], q, List.getElem?_eq_getElem hi⟩, fun H q => ⟨xs, q, Nat.le_refl _⟩, fun i H v H' _ q ⟨T, x, ev, hn, eH, hx⟩ => ⟨T, _, x, ev, hn, eH, rfl, hx xs q⟩⟩
/-! ### numbers -/
section
variable {X : Cx}
theorem ip_mul : PIp X .Mult (fun x y H Q => ∃ i j, x = .int i ∧ y = .int j ∧ CMul i j ∧ Q (.int (i * j)) H) := by
  intro pins s σ H x y v u Q I r1 r2 ⟨i, j, e1, e2, c, q⟩
  subst e1 e2
  obtain ⟨t, rfl⟩ := r1
  obtain ⟨t', rfl⟩ := r2
  exact imul_int ⟨.int _, H, I.tok _, ⟨_, rfl⟩, q⟩ c.ok
/-- a power of a great number -/
theorem op_powB : OpR X (binaryOp .Pow) (rI (fun i j => 0 ≤ j ∧ (Builtin.Int.intBits i : Int) * j ≤ 2 ^ 27) fun i j => .int (i ^ j.toNat)) := opI fun _ _ _ _ _ _ _ hc q => pow_int hc.1 hc.2 q
end
end K61

set_option Elab.async false
set_option maxRecDepth 100000
set_option maxHeartbeats 4000000
/-! Rules that the layer lacks: {elt for ..} of ints, len of it, len(set(xs)) with equal items, sorted of a tuple. -/
namespace K61
open PySem PySem.Spec PyProof.Rows L2
/-- the empty set's object -/
abbrev setNil (w : World) : Obj := { cls := .type "set", dict := none, data := .set #[] 0 (.fresh 0 0 (!w.params.followText "set-order")) }
section
variable {X : Cx}
/-- a turn of {elt for ..}: y an int goes into the set at D -/
def addI (w : World) (D : Addr) (Nx : Hp → Prop) : V → Hp → Prop := fun y H4 => ∃ (c : Int) (S : Int → Bool) (n : Nat), y = .int c ∧ H4 D = some (SetO w D S n) ∧ n + 1 < scanBound ∧ Nx (upd H4 D (SetO w D (fun j => S j || decide (j = c)) (if S c = true then n else n + 1)))
def tSci (w : World) (wi : TI) (g : TG) (tt : TT) (te : TE) (vs : List Nat) : TE := fun σ H Q => wi σ H fun J H1 => ∀ D, H1 D = none → ∃ W : Nat → Nat → Hp → Prop, (∃ m, W 0 m (upd H1 D (SetO w D (fun _ => false) 0))) ∧ ∀ i m H, W i m H →
  (J.stop i H ∧ Q (.ref D) H) ∨ (J.go i H ∧ ∃ Nx : Hp → Prop, (∀ H', Nx H' → ∃ m', m' < m ∧ W (i + 1) m' H') ∧ ∀ x H', J.yld i H x H' → g x (wipe σ vs) H' fun σ2 H2 => wipe σ2 vs = wipe σ vs ∧ tt σ2 H2 fun b H3 => if b = true then te σ2 H3 (addI w D Nx) else Nx H3)
theorem pe_scI {elt tg iter : Expr} {ifs : List Expr} {scope : Scope} {own : List (PySem.Str × Nat)} {pos : Pos} {wi : TI} {g : TG} {tt : TT} {te : TE} (hc : X.calm = true) (hN : X.N.Nodup) (hi : PI X tg iter wi) (ok : BlkOk X.N X.env.scope scope own)
    (hg : ∀ s H C cl fp, PG (X.blk s H scope (compEnvC scope cl C X.env) fp) tg g) (ht : ∀ s H C cl fp, PTs (X.blk s H scope (compEnvC scope cl C X.env) fp) ifs tt) (he : ∀ s H C cl fp, PE (X.blk s H scope (compEnvC scope cl C X.env) fp) elt te)
    (hs : ∀ x, foldedSetIterable iter X.env x = pure x := by intro _; rfl) : PE X (.SetComp elt [⟨tg, iter, ifs, 0⟩] scope pos) (tSci X.w wi g tt te (own.map (·.2))) := by
  refine ⟨fun pins s σ H Q I h => ?_⟩
  rw [PpSet.eval_SetComp]
  have fr : ∀ y ∈ scope.names, y.2 = .free → ∃ c, X.env.cells.lookup y.1 = some c := fun y hy e => (ok.free y hy e).elim (fun k => I.ok.has _ (.inl k)) fun k => I.ok.has _ (.inr k)
  refine wpAny_comprehension_free (use := none) rfl hs (closure_ok fr) ok.kind (fun y hy e => by rw [ok.uniq y hy, e]) (thn (hi.run pins s σ H _ I h) fun xv s1 hx => thn hx fun itv s2 h2 => ?_)
  obtain ⟨it, fp, tn, J, H2, e, I2, T, st2, f2, q⟩ := h2
  subst e
  refine PpSet.newSet_ok (newEnv_comp ?_)
  -- the new set at D, the state s3
  have fresh2 : H2 s2.heap.objs.size = none := I2.hok.fresh (Nat.le_refl _)
  obtain ⟨W, ⟨m0, w0⟩, turn⟩ := q _ fresh2
  have J3 := I2.laid (t' := s2.toks) (fun b o z => Heap.get?_push_of_some (setNil X.w) z) (Nat.le_refl _) (setO_new (P := X.prog) (H := upd H2 s2.heap.objs.size (SetO X.w s2.heap.objs.size (fun _ => false) 0)) (setR_fresh (h := s2.heap) X.w))
  have low : ∀ b ∈ fp, b < s2.heap.objs.size := fun b hb => let ⟨_, z, _⟩ := T.obj _ _ st2 b hb; Heap.lt_size z
  have f3 : ∀ b ∈ fp, FpOk X pins (upd H2 s2.heap.objs.size (SetO X.w s2.heap.objs.size (fun _ => false) 0)) b ∧ b < (s2.heap.push (setNil X.w)).objs.size := fun b hb =>
    ⟨⟨by rw [upd_ne (Nat.ne_of_lt (low b hb))]; exact (f2 b hb).1, (f2 b hb).2⟩, by rw [Heap.size_push]; exact Nat.lt_succ_of_lt (low b hb)⟩
  have st3 : tn 0 (s2.heap.push (setNil X.w)) := T.keep _ _ _ st2 fun b _ o z => Heap.get?_push_of_some _ z
  generalize hD : s2.heap.objs.size = D at J3 f3 w0 turn fresh2 low ⊢
  generalize hH : upd H2 D (SetO X.w D (fun _ => false) 0) = H3 at J3 f3 w0
  generalize hS : ({ s2 with heap := s2.heap.push (setNil X.w), toks := s2.toks } : Shared) = s3 at J3
  have e3 : s3.heap = s2.heap.push (setNil X.w) := by rw [← hS]
  rw [← e3] at f3 st3
  -- the block
  have I4 := block_start J3 ok hN f3
  have g4 := hg s3 H3 s3.heap.objs.size (cellsFrom (s3.heap.objs.size + 1) scope.names (cloFrom X.env.cells scope.names [])) fp
  have t4 := ht s3 H3 s3.heap.objs.size (cellsFrom (s3.heap.objs.size + 1) scope.names (cloFrom X.env.cells scope.names [])) fp
  have p4 := he s3 H3 s3.heap.objs.size (cellsFrom (s3.heap.objs.size + 1) scope.names (cloFrom X.env.cells scope.names [])) fp
  have st4 : tn 0 (pushCells (s3.heap.push { cls := .type "dict", data := .dict #[] }) scope.names) := T.keep _ _ _ st3 fun b _ o z => pushCells_keeps _ _ _ _ (Heap.get?_push_of_some _ z)
  have n3 : ∀ b ∈ fp, H3 b = none := fun b hb => (f3 b hb).1.1
  show codeAny _ _ (.compStart (.SetComp elt [⟨tg, iter, ifs, 0⟩] scope pos) 0 (.ref it) (.ref D) (compEnvC scope (cellsFrom (s3.heap.objs.size + 1) scope.names (cloFrom X.env.cells scope.names [])) s3.heap.objs.size X.env)) (compPost (model X.prog X.w) X.A X.xe none (EP X pins σ Q) (.ref D) s3.heap.objs.size)
    { s3 with heap := pushCells (s3.heap.push { cls := .type "dict", data := .dict #[] }) scope.names }
  generalize hB : compEnvC scope (cellsFrom (s3.heap.objs.size + 1) scope.names (cloFrom X.env.cells scope.names [])) s3.heap.objs.size X.env = be at I4 g4 t4 p4 ⊢
  have bL : be.locals = s3.heap.objs.size := by rw [← hB]; rfl
  generalize hs4 : ({ s3 with heap := pushCells (s3.heap.push { cls := .type "dict", data := .dict #[] }) scope.names } : Shared) = s4 at I4 ⊢
  have st4' : tn 0 s4.heap := by rw [← hs4]; exact st4
  have spot : ∀ {σ' : L2.St} {H' : Hp} {s' : Shared}, Inv (X.blk s3 H3 scope be fp) [] σ' H' s' → (∀ b ∈ fp, H' b = none) → ∀ b ∈ fp, FpOk (X.blk s3 H3 scope be fp) [] H' b := fun {_ _ _} K1 hn b hb =>
    ⟨hn b hb, (K1.ok.exf b hb).1, K1.ok.exfs b hb, .inl hb, fun x c z => (K1.ok.exf b hb).2 x c z, fun p hp => by simp at hp⟩
  have main : codeAny (model X.prog X.w) X.A (.compLoop (.SetComp elt [⟨tg, iter, ifs, 0⟩] scope pos) 0 (.ref it) (.ref D) be) (compPost (model X.prog X.w) X.A X.xe none (EP X pins σ Q) (.ref D) s3.heap.objs.size) s4 := by
    refine PpSet.compLoopS_any (fun n z => ∃ i Hz, Inv (X.blk s3 H3 scope be fp) [] (wipe σ (own.map (·.2))) Hz z ∧ tn i z.heap ∧ (∀ b ∈ fp, Hz b = none) ∧ W i n Hz) ?_ m0 ⟨0, H3, I4, st4', n3, w0⟩
    rintro n s5 ⟨i, H5, I5, st5, n5, w5⟩
    rcases turn i n H5 w5 with ⟨stop, qq⟩ | ⟨go, Nx, hNx, step⟩
    · refine thnF (T.done (X.blk s3 H3 scope be fp) rfl rfl rfl hc i [] s5 _ H5 (fun _ _ => False) I5 (spot I5 n5) st5 stop) fun r s6 hr6 => ?_
      obtain ⟨hr, I6⟩ := hr6
      subst hr
      have I7 : Inv X pins σ H5 s6 := J3.call' (ch := fp) I6.os I6.base I6.hok I6.bare fun b hb => let z := (f3 b hb).1.2; ⟨z.2.2.1, z.1, z.2.2.2.1, z.2.2.2.2⟩
      have nC : H5 s3.heap.objs.size = none := by rw [← bL]; exact I6.free
      obtain ⟨mm, hmm, _⟩ := I6.loc
      have hmm2 : s6.heap.Ns s3.heap.objs.size mm := by rw [← bL]; exact hmm
      refine ⟨mm, hmm2, fun h'' sb => ?_⟩
      obtain ⟨c0, c1, c2, c3, c4, c5⟩ := J3.fpOk (H' := H5) (Nat.le_refl _) nC
      exact ⟨.ref D, H5, I7.turned (t' := s6.toks) (fun b o hb z => (sb.2 b hb).trans z) c0 c1 c3 c4 c5, rfl, qq⟩
    · refine thnF (T.item (X.blk s3 H3 scope be fp) rfl rfl rfl hc i [] s5 _ H5 (fun _ _ => False) I5 (spot I5 n5) st5 go) fun r s6 hr6 => ?_
      obtain ⟨u, hr, h6⟩ := hr6
      subst hr
      refine thnF h6 fun _ s7 h7 => ?_
      obtain ⟨x, H7, I7, r7, y7, st7, n7⟩ := h7
      have back : ∀ {s' : Shared} {H' : Hp} {σ8 : L2.St}, wipe σ8 (own.map (·.2)) = wipe σ (own.map (·.2)) → Inv (X.blk s3 H3 scope be fp) ([] ++ pinsAt fp s7.heap) σ8 H' s' → Nx H' →
          ∃ m, m < n ∧ ∃ i Hz, Inv (X.blk s3 H3 scope be fp) [] (wipe σ (own.map (·.2))) Hz s' ∧ tn i s'.heap ∧ (∀ b ∈ fp, Hz b = none) ∧ W i m Hz := fun {s' H' σ8} ew K1 nx => by
        obtain ⟨m', hm, w'⟩ := hNx H' nx
        have kept : ∀ b ∈ fp, ∀ o, s7.heap.get? b = some o → s'.heap.get? b = some o ∧ H' b = none := fun b hb o z => let y := K1.pin (b, o) (List.mem_append_right _ (List.mem_append_right _ (mem_pinsAt hb z))); ⟨y.1, y.2.1⟩
        refine ⟨m', hm, i + 1, H', (K1.unpinned (pins := [])).weak (by rw [← ew, wipe_length]) (fun j v z => ?_), T.keep _ _ _ st7 fun b hb o z => (kept b hb o z).1, fun b hb => ?_, w'⟩
        · rw [← ew] at z
          exact (wipe_some z).1
        · obtain ⟨o, z, _⟩ := T.obj _ _ st7 b hb
          exact (kept b hb o z).2
      refine thnF (g4.run _ s7 _ H7 x u _ (I7.pinned (spot I7 n7) (T.obj _ _ st7)) r7 (step x H7 y7)) fun _ s8 h8 => ?_
      obtain ⟨σ8, H8, I8, ew, q8⟩ := h8
      refine thnF (t4.run _ s8 σ8 H8 _ I8 q8) fun b s9 h9 => ?_
      obtain ⟨H9, I9, q9⟩ := h9
      cases b with
      | false =>
        rw [if_neg Bool.false_ne_true] at q9
        exact back ew I9 q9
      | true =>
        rw [if_pos rfl] at q9
        refine thnF (p4.run _ s9 σ8 H9 _ I9 q9) fun z s10 h10 => ?_
        obtain ⟨yv, H10, I10, r10, cc, S0, n0, ey, hD10, room, nx⟩ := h10
        subst ey
        obtain ⟨tk, ez⟩ := r10
        subst ez
        refine setR_add (setO_get (X := X.blk s3 H3 scope be fp) I10 hD10) room fun h' sb new => ?_
        have there : ∃ u, h'.get? D = some u := let ⟨o, _, _, _, ho, _⟩ := new; ⟨o, ho⟩
        exact back ew (I10.write (e := D) (t' := s10.toks + 1) (by rw [hD10]; exact True.intro) (.inl rfl) (fun b u hb hu => (sb.2 b hb).trans hu) there (setO_new new)) nx
  exact PpSet.codeAny_compStart_set main (T.self X.A 0 _ _ _ st4' main)
/-- len of such a set -/
theorem call_lenS : CallR X (.builtin "len") (fun xs H Q => ∃ (a : Addr) (S : Int → Bool) (n : Nat), xs = [.ref a] ∧ H a = some (SetO X.w a S n) ∧ Q (vn n) H) := by
  intro pins s σ H xs us Q I r h
  obtain ⟨a, S, n, rfl, ha, q⟩ := h
  obtain ⟨u, rfl, ru⟩ := r.one
  cases ru
  obtain ⟨o, es, ep, t, ho, hex, hd, _, _, _, hb, hf, hn, _⟩ := setO_get I ha
  have small : (es.size : Int) < 2 ^ 63 := by
    have z : es.size < scanBound := hb
    unfold scanBound at z
    omega
  exact call_len_set ho hex hd hf small ⟨vn n, H, I.tok _, ⟨_, by rw [hn]⟩, q⟩
/-- the different ones among ints, by their first places -/
def metN (ns : List Int) : Nat := (firstMet (fun i => ns.getD i 0) ns.length).length
def tLenSetL (K : PySem.W.Frag) (ta : TE) : TE := fun σ H Q => ta σ H fun x H1 => ∃ (l : Addr) (ns : List Int), x = .ref l ∧ SqL K H1 l (ns.map V.int) ∧ ns.length ≤ 1000 ∧ (metN ns ≤ 1000 → Q (vn (metN ns)) H1)
theorem pe_lenSetL {a : Expr} {ta : TE} {p p2 q pos : Pos} (hg : Gl X "len") (hm : X.mg "len" = none) (hg2 : Gl X "set") (hm2 : X.mg "set" = none) (ha : PE X a ta) (hc : X.calm = true := by rfl)
    (na : starEach [a] X.env = (false, eval a X.env) :: starEach [] X.env := by rfl) : PE X (.Call (.Name "len" p) [.Call (.Name "set" p2) [a] [] q] [] pos) (tLenSetL X.K ta) := by
  refine ⟨fun pins s σ H Q I h => ?_⟩
  refine Call_ (ld_blt I hg hm PySem.boot_len (callWith_builtin1 (args_cons (Call_ (ld_blt I hg2 hm2 boot_set (callWith_type1 (args_cons (thn (ha.run pins s σ H _ I h) fun v s1 ⟨x, H1, I1, r1, q1⟩ => args_nil ?_) na) na rfl))) rfl) rfl rfl))
  obtain ⟨l, ns, rfl, hq, hl, q1⟩ := q1
  cases r1
  obtain ⟨its, r, pl, hz⟩ := I1.list hq
  have el : its.toArray.size = ns.length := by rw [List.size_toArray, ← r.length, List.length_map]
  refine call_set_list (I1.ok.hd hc) pl.isList (ns := ns) (by simpa using r.ints) (by rw [el]; unfold scanBound; omega) fun h' tk hS hk => args_nil ?_
  rw [el] at hS
  obtain ⟨o, es, ep, t, ho, hex, hd, _, _, _, hf, hn⟩ := hS
  have few : metN ns ≤ 1000 := by
    have mono : ∀ k, (firstMet (fun i => ns.getD i 0) k).length ≤ k := by
      intro k
      induction k with
      | zero => exact Nat.le_refl _
      | succ k ih =>
        rw [firstMet_succ]
        unfold step_dedup
        split
        · omega
        · rw [List.length_append, List.length_singleton]; omega
    exact Nat.le_trans (mono _) hl
  have es' : es.size = metN ns := hn
  exact call_len_set ho hex hd hf (by rw [es']; omega) ⟨vn (metN ns), H1, (I1.kept (t' := tk) fun b u z => hk b u (Heap.lt_size z) z).tok _, ⟨_, by rw [es']⟩, q1 few⟩
/-! ### sorted(t), t a tuple of few ints -/
def rSortedT1 (K : PySem.W.Frag) : List V → Hp → VK → Prop := fun vs H Q => ∃ (a : Addr) (ns : List Int), vs = [V.ref a] ∧ SqT K H a (ns.map V.int) ∧ ns.length < 64 ∧
  ∀ (ns' : List Int) (p : Addr), ns'.Perm ns → ns'.Pairwise (· ≤ ·) → H p = none → Q (.ref p) (upd H p (.lst (ns'.map V.int)))
theorem cr_sortedT : CallR X (.builtin "sorted") (rSortedT1 X.K) := by
  intro pins s σ H vs us Q I r h
  obtain ⟨a, ns, rfl, hs, h64, q⟩ := h
  obtain ⟨its, rv, tp, hz⟩ := I.tuple hs
  obtain ⟨u, rfl, ru⟩ := r.one
  cases ru
  have hi := rv.ints
  have li : its.length < 64 := by rw [← rv.length, List.length_map]; exact h64
  have lz : its.length ≤ sizeLine := small64 li
  obtain ⟨o, ho, hcl, n, hd⟩ := tp
  refine Calls.call_function_entry kind_sorted plain_sorted entry_sorted (args_sorted1 _) (show wpAny _ _ (Builtin.«sorted» ⟨[.ref a], []⟩) _ _ s from ?_)
  unfold Builtin.«sorted»
  refine wpAny_bind (m := checkCount "sorted" 1 1 _) (wpAny_pure (wpAny_bind (wpAny_collect_seq a (.inr rfl) ho hcl hd (fun h1 keep => wpAny_bind (wpAny_newList ?_ (by simpa using lz))) (by simpa using lz))))
  have oL : (h1.push { cls := .type "list", data := .seq its.toArray.toList.toArray }).get? h1.objs.size = some (seqObj "list" its.toArray 0) := Heap.get?_push_size _ rfl
  refine wpAny_bind (wpAny_holding (wpAny_call_entry slot_list_sort ⟨_, oL, rfl⟩ entry_list_sort (list_sort_tree oL hi (by rw [hi.length]; exact h64) fun out ns' k1 k2 k3 => ⟨.none, rfl, wpAny_pure ⟨_, rfl, ?_⟩⟩) (args_list_sort _)))
  have I1 : Inv X pins σ H { s with heap := h1 } := I.kept (t' := s.toks) keep
  have old : ∀ b w', h1.get? b = some w' → (sortedHeap (h1.push { cls := .type "list", data := .seq its.toArray.toList.toArray }) h1.objs.size its out).get? b = some w' := fun b w' z => by
    have lt := Heap.lt_size z
    rw [sortedHeap_old (Nat.ne_of_lt lt) (by rw [Heap.size_push]; exact Nat.lt_succ_of_lt lt)]
    exact Heap.get?_push_of_some _ z
  obtain ⟨ep, at_⟩ := sortedHeap_at (vs := its) (out := out) oL
  have len : (ns'.map V.int).length ≤ sizeLine := by rw [List.length_map, k2.length_eq]; exact small64 h64
  exact ⟨.ref h1.objs.size, upd H h1.objs.size (.lst (ns'.map V.int)), I1.laid (t' := s.toks) old (Nat.le_refl _) ⟨len, out.toList, ep, vals_of_ints k1, at_⟩, rfl, q ns' _ k2 k3 (I1.hok.fresh (Nat.le_refl _))⟩
end
end K61

set_option Elab.async false
set_option maxRecDepth 100000
set_option maxHeartbeats 4000000
/-! Rules that the layer lacks: items and sums of dicts with tuple keys, {(a, b): c}, a range's object walked, iter of a tuple, sorted of a dict. -/
namespace K61
open PySem PySem.Spec PyProof.Rows L2
section
variable {X : Cx} {pins : List (Addr × Obj)} {σ : L2.St} {H : Hp} {s : Shared} {d : Addr} {o : Obj}
/-- a locked dict's entries, tuple keys, with their values -/
theorem frzTV {kvs : List (List Key × V)} (I : Inv X pins σ H s) (h : H d = some (.frz o (.dT kvs))) :
    (d == sysModules) = false ∧ ∃ (es : Array DictEntry) (ep : Nat), o.data = .dict es ep ∧ s.heap.DictRaw d es ep ∧ es.size = kvs.length ∧
      ∀ (i : Nat) (hi : i < es.size) (k : List Key) (v : V), kvs[i]? = some (k, v) → ∃ q : Addr, es[i].key = .ref q ∧ H q = some (.tup (k.map kV)) ∧ RelV v es[i].val := by
  obtain ⟨hd, z, hs, xs, pr, o', es, ep, ho, hx, hdt, he, _⟩ := I.hok d _ h
  rw [hd] at ho
  cases ho
  have l1 : es.size = xs.length := size_of_entries he
  have l2 : kvs.length = xs.length := Paired.length pr
  refine ⟨hs, es, ep, hdt, ⟨o, hd, hx, hdt⟩, by omega, fun i hi k v e => ?_⟩
  obtain ⟨b, hb, e1, e2, e3⟩ := paired_get pr e
  have q := entry_at he i
  rw [hb, Array.getElem?_eq_getElem hi] at q
  have q' := Option.some.inj q
  rw [q']
  exact ⟨b.2.1, rfl, e2, e3⟩
end
/-- the pairs of the locked dict at d, tuple keys: the key's own tuple and the value in a new pair -/
def IteTT (d : Addr) (o : Obj) (kvs : List (List Key × V)) : It :=
  ⟨fun i H => H d = some (.frz o (.dT kvs)) ∧ i < kvs.length, fun i H x H' => ∃ T k v q, kvs[i]? = some (k, v) ∧ H q = some (.tup (k.map kV)) ∧ x = .ref T ∧ H T = none ∧ H' = upd H T (.tup [.ref q, v]), fun i H => H d = some (.frz o (.dT kvs)) ∧ kvs.length ≤ i⟩
theorem turn_itemsT {P : Program} {w : World} {K : PySem.W.Frag} {elts : List Expr} {kk : Nat} {tpos : Pos} {d : Addr} {o : Obj} {es : Array DictEntry} {ep : Nat} {kvs : List (List Key × V)} (it : Addr) (hod : o.data = .dict es ep) (hne : d ≠ it) :
    Turn P w K (.Tuple elts kk tpos) (IteTT d o kvs) [it] it (fun i h => ∃ ok ov, IsItemIter h it d i es.size ep ok ov) where
  mem := by simp
  obj := fun i h st b hb => by
    have e : b = it := by simpa using hb
    subst e
    obtain ⟨ok, ov, e⟩ := st
    exact ⟨_, e, fun v z => nomatch z⟩
  keep := fun i h h' st k => let ⟨ok, ov, e⟩ := st; ⟨ok, ov, k it (by simp) _ e⟩
  item := by
    intro X hP hw hK hc i pins s σ H E I hf st hg
    subst hP hw hK
    obtain ⟨hd, hi⟩ := hg
    obtain ⟨hs, es', ep', hdt, hraw, hsz, ent⟩ := frzTV I hd
    obtain ⟨rfl, rfl⟩ := dict_ep hod hdt
    obtain ⟨⟨k, v⟩, hkv⟩ : ∃ p, kvs[i]? = some p := ⟨kvs[i], List.getElem?_eq_getElem hi⟩
    have lt : i < es'.size := by omega
    obtain ⟨q, eq, hq, rv⟩ := ent i lt k v hkv
    have W := GoesN.rawItems (elts := elts) (x1 := kk) (pos := tpos) (prog := X.prog) (w := X.w) (A := X.A) (show X.A.handled = none from I.ok.hd hc) it d hne es' ep'
    refine W.goes i s _ _ lt ⟨st, hraw⟩ fun u h' tk hY st' hk _ => ?_
    obtain ⟨T, hi', rfl, hnew, hT⟩ := hY
    have hitl : it < s.heap.objs.size := let ⟨_, _, z⟩ := st; Heap.lt_size z
    have hk' : ∀ b ob, b ∉ [it] → s.heap.get? b = some ob → h'.get? b = some ob := fun b ob hb z => hk b ob hb z
    have J := I.turnedNew (t' := tk) (ch := [it]) hk' hf hnew (tup_ok (xs := [V.ref q, v]) (us := [es'[i].key, es'[i].val]) (.cons eq (.cons rv .nil)) (by show 2 ≤ sizeLine; decide) hT)
    refine ⟨.ref T, _, J, rfl, ⟨T, k, v, q, hkv, hq, rfl, I.hok.fresh hnew, rfl⟩, st'.1, fun b hb => ?_⟩
    have e : b = it := by simpa using hb
    rw [e, upd_ne (Nat.ne_of_lt (Nat.lt_of_lt_of_le hitl hnew))]
    exact (hf it (by simp)).1
  done := by
    intro X hP hw hK hc i pins s σ H E I hf st hg
    subst hP hw hK
    obtain ⟨hd, hi⟩ := hg
    obtain ⟨hs, es', ep', hdt, hraw, hsz, ent⟩ := frzTV I hd
    obtain ⟨rfl, rfl⟩ := dict_ep hod hdt
    obtain ⟨ok, ov, he⟩ := st
    exact wpAny_pyNext_items_end_raw (show X.A.handled = none from I.ok.hd hc) he hraw (by omega) fun h' eb => ⟨rfl, I.turnedL (t' := s.toks) (ch := [it]) (fun b ob hb e => eb b ob (by simpa using hb) e) hf⟩
  self := fun A i s Q E st h => let ⟨_, _, e⟩ := st; PySem.W.kcp_self e h
def iItemsT (td : TE) : TI := fun σ H R => td σ H fun x H1 => ∃ d o kvs, x = .ref d ∧ H1 d = some (.frz o (.dT kvs)) ∧ R (IteTT d o kvs) H1
section
variable {X : Cx} {e : Expr} {td : TE} {apos cpos : Pos}
theorem pi_itemsT {elts : List Expr} {kk : Nat} {tpos : Pos} (he : PE X e td) (hbase : attributeBase e "items" X.env (eval e X.env) = eval e X.env := by rfl) (hline : (apos.endLine == cpos.line) = true := by rfl) :
    PI X (.Tuple elts kk tpos) (.Call (.Attribute e "items" apos) [] [] cpos) (iItemsT td) := by
  refine ⟨fun pins s σ H R I h => ?_⟩
  refine wpAny_Call_method (T := "dict") (id := "dict.items") hbase rfl hline F.plainAttrs_dict F.slot_dict_items F.type_dict_items (thn (he.run pins s σ H _ I h) fun u s1 ⟨x, H1, I1, rx, d, o, kvs, ex, hd, q⟩ => ?_)
  subst ex
  obtain rfl : u = Value.ref d := rx
  obtain ⟨hs, es, ep, hdt, hraw, hsz, ent⟩ := frzTV I1 hd
  have hdl : d < s1.heap.objs.size := let ⟨_, z, _⟩ := hraw; Heap.lt_size z
  refine ⟨hraw.typeIs, fun b q => (by cases q; obtain ⟨od, z, zx, _⟩ := hraw; exact ⟨od, z, zx.2.1⟩), ?_⟩
  have I2 : Inv X pins σ H1 { s1 with heap := s1.heap.push { cls := .type "dict_items", data := .fields #[.ref d] } } := I1.kept (t' := s1.toks) fun b ob q => Heap.get?_push_of_some _ q
  have fin : wpAny (model X.prog X.w) X.A (pyIter (.ref s1.heap.objs.size)) (PIE X pins σ (.Tuple elts kk tpos) R) X.xe { s1 with heap := s1.heap.push { cls := .type "dict_items", data := .fields #[.ref d] } } := by
    refine wpAny_pyIter_items_raw (d := d) (es := es) (ep := ep) ⟨_, Heap.get?_push_size _ rfl, rfl, rfl⟩ (hraw.at fun ob z => Heap.get?_push_of_some _ z) (pi_one (tk := s1.toks) I2 _ (turn_itemsT _ hdt (Nat.ne_of_lt (by show d < (s1.heap.push _).objs.size; rw [Heap.size_push]; exact Nat.lt_succ_of_lt hdl))) ⟨.none, .none, ?_⟩ q)
    exact Heap.get?_push_size _ rfl
  show wpAny _ _ (callWith cpos (.builtin "dict.items") [.ref d] [] []) _ X.xe s1
  exact method_meetsIn F.slot_dict_items F.entry_dict_items rfl (PySem.evalArgs_none ⟨rfl, hraw.typeIs, F.args_dict_items_1 _, _, meets_dict_items_raw d hs, ⟨⟨es, ep, hraw⟩, fin⟩⟩)
end
theorem walk_itemsT {d : Addr} {o : Obj} {kvs : List (List Key × V)} : Walk (IteTT d o kvs) kvs.length (fun H => H d = some (.frz o (.dT kvs)))
    (fun i H x H' => ∃ T k v q, kvs[i]? = some (k, v) ∧ H q = some (.tup (k.map kV)) ∧ x = .ref T ∧ H T = none ∧ H' = upd H T (.tup [.ref q, v])) :=
  ⟨fun _ _ hi q => ⟨q, hi⟩, fun _ q => ⟨q, Nat.le_refl _⟩, fun _ _ _ _ _ _ y => y⟩
/-! ### sum(d.values()) -/
section
variable {X : Cx} {e : Expr} {td : TE} {p apos cpos pos : Pos}
/-- d a dict with tuple keys, its values ints -/
def tSumVals (td : TE) : TE := fun σ H Q => td σ H fun x H1 => ∃ d kvs, x = .ref d ∧ H1 d = some (.dT kvs) ∧ ∃ ns : List Int, kvs.map (·.2) = ns.map V.int ∧ Q (.int ns.sum) H1
theorem preSum_at (ns : List Int) : ∀ n, n ≤ ns.length → preSum (fun i => ns.getD i 0) n = (ns.take n).sum := by
  intro n
  induction n with
  | zero => intro _; rfl
  | succ n ih =>
    intro h
    show preSum (fun i => ns.getD i 0) n + ns.getD n 0 = _
    rw [ih (by omega), List.take_succ, List.getD_eq_getElem?_getD, List.getElem?_eq_getElem (by omega), List.sum_append]
    simp
theorem pe_sumVals (hg : Gl X "sum") (hm : X.mg "sum" = none) (he : PE X e td) (hc : X.calm = true := by rfl) (hbase : attributeBase e "values" X.env (eval e X.env) = eval e X.env := by rfl) (hline : (apos.endLine == cpos.line) = true := by rfl)
    (na : starEach [.Call (.Attribute e "values" apos) [] [] cpos] X.env = (false, eval (.Call (.Attribute e "values" apos) [] [] cpos) X.env) :: starEach [] X.env := by rfl) :
    PE X (.Call (.Name "sum" p) [.Call (.Attribute e "values" apos) [] [] cpos] [] pos) (tSumVals td) := by
  refine ⟨fun pins s σ H Q I h => ?_⟩
  refine Call_ (ld_blt I hg hm PyProof.Rows.boot_sum (PyProof.Rows.callWith_builtin1 (PyProof.Rows.args_cons ?_ na) na rfl))
  refine wpAny_Call_method (T := "dict") (id := "dict.values") hbase rfl hline F.plainAttrs_dict F.slot_dict_values F.type_dict_values (thn (he.run pins s σ H _ I h) fun u s1 ⟨x, H1, I1, rx, d, kvs, ex, hd, ns, en, q⟩ => ?_)
  subst ex
  obtain rfl : u = Value.ref d := rx
  obtain ⟨z, hs, xs, rel, dd⟩ := dt_of I1.hok hd
  obtain ⟨es, ep, hraw, hsz, ent⟩ := dd.raw
  have l2 : kvs.length = xs.length := Paired.length rel
  have ln : ns.length = kvs.length := by have z := congrArg List.length en; simpa using z.symm
  refine ⟨hraw.typeIs, fun b q => (by cases q; obtain ⟨od, z, zx, _⟩ := hraw; exact ⟨od, z, zx.2.1⟩), ?_⟩
  have kp : ∀ b ob, s1.heap.get? b = some ob → (s1.heap.push { cls := .type "dict_values", data := .fields #[.ref d] }).get? b = some ob := fun b ob z => Heap.get?_push_of_some _ z
  have I2 : Inv X pins σ H1 { s1 with heap := s1.heap.push { cls := .type "dict_values", data := .fields #[.ref d] } } := I1.kept (t' := s1.toks) kp
  have hraw2 := hraw.at (h' := s1.heap.push { cls := .type "dict_values", data := .fields #[.ref d] }) fun ob z => kp _ _ z
  have hdl : d < s1.heap.objs.size := let ⟨_, z, _⟩ := hraw; Heap.lt_size z
  have fin : wpAny (model X.prog X.w) X.A (call (.builtin "sum") [.ref s1.heap.objs.size]) (EP X pins σ Q) X.xe { s1 with heap := s1.heap.push { cls := .type "dict_values", data := .fields #[.ref d] } } := by
    refine call_sum_walkAnyS ?_
    have hne : d ≠ (s1.heap.push { cls := .type "dict_values", data := .fields #[.ref d] }).objs.size := Nat.ne_of_lt (by rw [Heap.size_push]; exact Nat.lt_succ_of_lt hdl)
    refine wpAny_pyIter_values_raw (d := d) (es := es) (ep := ep) ⟨_, Heap.get?_push_size _ rfl, rfl, rfl⟩ hraw2 ?_
    refine ⟨_, _, _, _, es.size, _, _, fun i => ns.getD i 0, rfl, (Walks.rawValues (A := X.A.in1) (show X.A.in1.handled = none from I1.ok.hd hc) _ d hne es ep).toS, ⟨⟨_, Heap.get?_push_size _ rfl, rfl, rfl⟩, hraw2.at fun ob z => Heap.get?_push_of_some _ z⟩, fun b hb => ?_, fun i v hv => ?_, fun s' t' hmv => ?_⟩
    · have e' : b = (s1.heap.push { cls := .type "dict_values", data := .fields #[.ref d] }).objs.size ∨ b = d := by simpa using hb
      show b < (Heap.push _ _).objs.size
      rw [Heap.size_push]
      rcases e' with e' | e'
      · rw [e']; exact Nat.lt_succ_self _
      · rw [e', Heap.size_push]; exact Nat.lt_succ_of_lt (Nat.lt_succ_of_lt hdl)
    · obtain ⟨hi, ev⟩ := hv
      have hix : i < kvs.length := by omega
      obtain ⟨y, hy, _, e3, _⟩ := ent i hi
      obtain ⟨a0, ha0, r1, r2, r3⟩ := (paired_get (G := fun (p : List Key × V) (q : List Key × Addr × Value) => p.1 = q.1 ∧ H1 q.2.1 = some (.tup (p.1.map kV)) ∧ RelV p.2 q.2.2) rel (i := i) (a := kvs[i]) (List.getElem?_eq_getElem hix))
      rw [hy] at ha0
      obtain rfl := Option.some.inj ha0
      have en' : (kvs[i]).2 = V.int (ns.getD i 0) := by
        have z := congrArg (fun l => l[i]?) en
        simp only [List.getElem?_map, List.getElem?_eq_getElem hix] at z
        rw [List.getElem?_eq_getElem (show i < ns.length by omega)] at z
        simp only [Option.map_some, Option.some.injEq] at z
        rw [z, List.getD_eq_getElem?_getD, List.getElem?_eq_getElem (show i < ns.length by omega)]
        rfl
      rw [en'] at r3
      obtain ⟨t, et⟩ := r3
      exact ⟨t, by rw [ev, e3, et]⟩
    · have hk : ∀ b ob, (s1.heap.push { cls := .type "dict_values", data := .fields #[.ref d] }).get? b = some ob → s'.heap.get? b = some ob := fun b ob z =>
        hmv.heap b ob (fun hI => absurd (Heap.lt_size z) (by rw [List.mem_singleton.mp hI]; exact Nat.lt_irrefl _)) (Heap.get?_push_of_some _ z)
      rw [Moved.eq_with hmv]
      refine ⟨.int ns.sum, H1, I2.kept (t' := s'.toks) hk, ⟨t', ?_⟩, q⟩
      rw [preSum_at ns es.size (by omega), List.take_of_length_le (by omega)]
  show wpAny _ _ (callWith cpos (.builtin "dict.values") [.ref d] [] []) _ X.xe s1
  exact method_meetsIn F.slot_dict_values F.entry_dict_values rfl (PySem.evalArgs_none ⟨rfl, hraw.typeIs, F.args_dict_values_1 _, _, meets_dict_values_raw d hs, ⟨⟨es, ep, hraw⟩, args_nil fin⟩⟩)
end
end K61

set_option Elab.async false
set_option maxRecDepth 100000
set_option maxHeartbeats 4000000
/-! Rules that the layer lacks: {(a, b): c}, a range's object walked, iter of a tuple, sorted of a dict, tuple * 1. -/
namespace K61
open PySem PySem.Spec PyProof.Rows L2
section
variable {X : Cx}
/-- {k: v} with a tuple as its key -/
def tDispT1 (tk tv : TE) : TE := fun σ H Q => ∀ p, H p = none → tk σ (upd H p (.dT [])) fun y H1 => tv σ H1 fun x H2 => H2 p = some (.dT []) ∧ ∃ (k : List Key) (b : Addr), y = .ref b ∧ H2 b = some (.tup (k.map kV)) ∧ Q (.ref p) (upd H2 p (.dT [(k, x)]))
theorem pe_dispT1 {k v : Expr} {pos : Pos} {tk tv : TE} (hu : X.A.units + 1 < cLine) (hk : PE X k tk) (hv : PE X v tv) : PE X (.Dict [some k] [v] pos) (tDispT1 tk tv) := by
  refine ⟨fun pins s σ H Q I q => ?_⟩
  have hn := I.hok.fresh (Nat.le_refl s.heap.objs.size)
  have I1 := I.laid (a := s.heap.objs.size) (o := .dT []) (h' := s.heap.push { cls := .type "dict", data := .dict #[] }) (t' := s.toks) (fun _ _ q => Heap.get?_push_of_some _ q) (Nat.le_refl _) (dt_empty s.heap I.big)
  have sh : (evalEachOpt [some k] X.env).zip ((evalEach [v] X.env).map fun v => do let x ← v; standAt pos; pure x) = (pairTrees [some k] [v] X.env pos).map fun p => (some p.1, p.2) := zip_pairTrees [some k] [v] X.env pos rfl rfl
  rw [arm_eval_Dict, sh, dictDisplay_pairs (pairTrees [some k] [v] X.env pos) (by simp [pairTrees]) (by simp [pairTrees])]
  refine wpAny_bind (wpAny_standAt (wpAny_bind (wpAny_subDictH (knd := tupleKind (mixKind X.prog X.w)) (Q := fun d s' => wpAny (model X.prog X.w) X.A (pure (Value.ref d)) (EP X pins σ Q) X.xe s') (Nat.lt_of_succ_lt hu) (by simp [pairTrees]) ?_)))
  refine pairTrees_cons_walk (thn (hk.run pins _ σ _ _ I1 (q _ hn)) fun ky s1 ⟨y, H1, I2, ry, q1⟩ => thn (hv.run pins s1 σ H1 _ I2 q1) fun vv s2 ⟨x, H2, I3, rx, e, kk, b, ey, eb, q2⟩ => pairTrees_nil_walk ?_)
  subst ey
  cases (show ky = Value.ref b from ry)
  obtain ⟨z, hd, xs0, rel, dd⟩ := dt_of I3.hok e
  cases rel
  refine ⟨[(kk, b, vv)], ⟨rfl, rfl, key_of I3.hok eb, trivial⟩, dd, fun h' tkn dd' hs => wpAny_pure ⟨.ref s.heap.objs.size, _, ?_, rfl, q2⟩⟩
  obtain ⟨q, es, ep, hq, h2, h3, h4, _, h5⟩ := dd'
  refine d_write I3 (by rw [e]; exact True.intro) hs ⟨q, hq⟩ ⟨by show 1 ≤ sizeLine; decide, hd, _, Paired.cons ⟨rfl, ?_, rx⟩ .nil, q, es, ep, hq, h2, h3, h4, h5⟩
  show upd H2 _ _ b = some (.tup (kk.map kV))
  rw [upd_ne (ne_of eb e (fun z => nomatch z))]
  exact eb
/-- a range's object, walked -/
def iRngO (te : TE) : TI := fun σ H R => te σ H fun x H1 => ∃ a lo hi, x = .ref a ∧ H1 a = some (.rng lo hi) ∧ (-(2 ^ 62) ≤ lo ∧ lo < 2 ^ 62 ∧ -(2 ^ 62) ≤ hi ∧ hi < 2 ^ 62) ∧ R (Itr lo (hi - lo).toNat) H1
theorem pi_rng {tg e : Expr} {te : TE} (he : PE X e te) : PI X tg e (iRngO te) := by
  refine ⟨fun pins s σ H R I h => ?_⟩
  refine thn (he.run pins s σ H _ I h) fun v s1 ⟨x, H1, I1, r1, a, lo, hi, ex, ha, ⟨h1, h2, h3, h4⟩, q⟩ => ?_
  subst ex
  cases (show v = Value.ref a from r1)
  obtain ⟨t, u, v, eo⟩ := (show ObjOk X.prog X.w H1 s1.heap a (.rng lo hi) from I1.hok a _ ha)
  refine wpAny_pyIter_range eo (small_one h1 h2 h3 h4) (pi_one (tk := s1.toks) I1 _ (turn_range _ lo (hi - lo).toNat) ?_ q)
  have e1 : lo + ((0 : Nat) : Int) * 1 = lo := by simp
  have e2 : (((hi - lo).toNat : Nat) : Int) - ((0 : Nat) : Int) = Builtin.Range.rangeSize lo hi 1 := by rw [rangeSize_one]; split <;> omega
  show IsRangeIter _ _ (lo + ((0 : Nat) : Int) * 1) ((((hi - lo).toNat : Nat) : Int) - ((0 : Nat) : Int)) 1
  rw [e1, e2]
  exact Heap.get?_push_size _ rfl
abbrev rSortedD : List V → Hp → VK → Prop := fun xs H Q => ∃ (a : Addr) (kvs : List (Key × V)) (ks : List Int), xs = [.ref a] ∧ Rd H a (.dK kvs) ∧ kvs.map (·.1) = ks.map Sum.inl ∧ ks.length < 64 ∧
    ∀ (ys : List Int) (p : Addr), ys.Perm ks → ys.Pairwise (· ≤ ·) → H p = none → Q (.ref p) (upd H p (.lst (ys.map V.int)))
theorem cr_sortedD (hc : X.calm = true) : CallR X (.builtin "sorted") rSortedD := call_sortedDI hc
end
/-! ### tuple * int -/
theorem tuple_mulOne (l : Addr) (items : Array Value) (n : Nat) (dd : Option Addr) (sl : Array (Option Value)) (u : Tok) :
    Meets (Builtin.«tuple.__mul__» ⟨[.ref l, .int 1 u], []⟩) (fun _ R s => s.heap.get? l = some { cls := .type "tuple", dict := dd, data := .seq items n, slots := sl } ∧ R (.ok (.ret (Value.ref l))) s) :=
  .of_wp fun prog w A R s h => by
    obtain ⟨hp, g, d, tk, os⟩ := s
    obtain ⟨hl, h⟩ := h
    have f1 := AutoSeq1.idx_int
    have c0 : (decide ((1 : Int) < -(2 ^ 63)) || decide ((1 : Int) ≥ 2 ^ 63)) = false := by decide
    wp_walk using wpAny_loadPart' hl
    repeat (first
      | (refine wpAny_ite_false (decide_eq_false (by decide)) ?_; wp_walk using wpAny_loadPart' hl)
      | (refine wpAny_ite_true (decide_eq_true (by simp)) ?_; wp_walk using wpAny_loadPart' hl))
    exact ⟨_, rfl, h⟩
def rRepA (K : PySem.W.Frag) : R2 := fun x y H Q => ∃ l k xs, x = .ref l ∧ y = .int k ∧ SqT K H l xs ∧ xs ≠ [] ∧ 1 ≤ k ∧ k ≤ 1000 ∧ xs.length ≤ 1000 ∧ (k = 1 → Q (.ref l) H) ∧ (2 ≤ k → ∀ p, H p = none → Q (.ref p) (upd H p (.tup (List.replicate k.toNat xs).flatten)))
theorem op_repA {X : Cx} : OpR X (binaryOp .Mult) (rRepA X.K) := by
  intro pins s σ H x y v u Q I rx ry h
  obtain ⟨l, k, xs, rfl, rfl, hT, hne, h1, h2, hz, q1, q2⟩ := h
  by_cases hk : 2 ≤ k
  · exact op_repT pins s σ H _ _ v u Q I rx ry ⟨l, k, xs, rfl, rfl, hT, hne, hk, h2, hz, q2 hk⟩
  obtain rfl : k = 1 := by omega
  cases rx
  obtain ⟨t, rfl⟩ := ry
  obtain ⟨its, r, ⟨⟨cls, dd, data, sl⟩, ho, hc, n, hd⟩, hs⟩ := I.tuple hT
  simp only at hc hd
  subst hc hd
  refine wpAny_binaryOp_repeat_ref (T := "tuple") (U := "int") (by decide) ⟨_, ho, rfl⟩ (fun s' => typeIs_int s' 1 t) noFill_tuple_mul F.fills_int_mul F.slot_int_rmul repeat_tuple F.slot_int_index.lookup
    (call_meets F.slot_int_rmul (typeIs_int s 1 t) F.entry_int_rmul (F.args_int_rmul_2 _ _) (int_rmul_tuple 1 t l its.toArray n dd sl)
      ⟨ho, rfl, ⟨_, ho, rfl⟩, call_meets F.slot_tuple_mul ⟨_, ho, rfl⟩ F.entry_tuple_mul (F.args_tuple_mul_2 _ _) (tuple_mulOne l its.toArray n dd sl t) ⟨ho, ?_⟩⟩)
  exact ⟨.ref l, H, I, rfl, q1 rfl⟩
/-! ### iter(t), t a tuple; a walk over an instance whose __iter__ answers such an iterator -/
/-- the iterator at it of the tuple at l, not yet begun -/
abbrev TupItO (l it : Addr) : HO := .ext fun h => h.IsTupleIter it l 0
theorem tupIt_ok {P : Program} {w : World} {H : Hp} {h : Heap} {l it : Addr} (e : h.IsTupleIter it l 0) : ObjOk P w H h it (TupItO l it) := ⟨e, let ⟨o, h, _⟩ := e; ⟨o, h⟩, fun h1 h2 q k => q.at fun o z => k _ z⟩
def rIterT (K : PySem.W.Frag) (n : Nat) : List V → Hp → VK → Prop := fun xs H Q => ∃ (l : Addr) (zs : List V), xs = [.ref l] ∧ SqT K H l zs ∧ ∀ it, H it = Option.none → n ≤ it → Q (.ref it) (upd H it (TupItO l it))
theorem call_iterT {X : Cx} : CallR X (.builtin "iter") (rIterT X.K X.s_0.heap.objs.size) := by
  intro pins s σ H xs us Q I r h
  obtain ⟨l, zs, rfl, hq, q⟩ := h
  obtain ⟨u, rfl, ru⟩ := r.one
  cases ru
  obtain ⟨its, rv, tp, hz⟩ := I.tuple hq
  refine Calls.call_function_entry (by decide +kernel) (by decide +kernel) PySem.W.kdk_entry_iter (PySem.W.kdk_args_iter _) ?_
  unfold Builtin.«iter»
  refine wpAny_bind (m := someArgs "iter" 1 2 _) (wpAny_of_eq (a := [Value.ref l]) (by first | rfl | kernel_rfl!) ?_)
  show wpAny _ _ (pyIter (.ref l) >>= _) _ _ _
  refine wpAny_bind (wpAny_pyIter_tuple (show s.heap.IsTuple l its.toArray from tp) ?_)
  refine wpAny_pure ⟨_, rfl, .ref s.heap.objs.size, _, I.laid (t' := s.toks) (fun b u e => Heap.get?_push_of_some _ e) (Nat.le_refl _) (tupIt_ok ⟨_, Heap.get?_push_size _ rfl, rfl, rfl⟩), rfl, q _ (I.hok.fresh (Nat.le_refl _)) I.sz⟩
/-- a callee whose promise may speak of the heap's size as it is entered -/
def FnN (P : Program) (w : World) (K : PySem.W.Frag) (mg : Str → Option Value) (base : Heap) (k : Nat) (f : Addr) (sp : Nat → Sp) : Prop :=
  ∀ (A : Around) (outer : List Env) (s : Shared) (H : Hp) (us : List Value) (vs : List V) (Q : VK) (E : XK), Room k A → Env0 P w K mg base A outer s H → Vals vs us → sp s.heap.objs.size vs H Q E →
    codeAny (model P w) A (.call (.ref f) ⟨us, []⟩) (CR CX0 outer P w H s Q E) s
theorem metN_of {P : Program} {w : World} {K : PySem.W.Frag} {mg : Str → Option Value} {base : Heap} {x qual : Str} {params : Arguments} {body : List Stmt} {scope : Scope} {f : Addr} {fd : FuncData} {N ps : List Str} {k : Nat} {sp : Nat → Sp}
    (F : FunD K x qual params body scope [] [] f fd) (S : FnScope N ps scope) (len : ∀ n vs H Q E, sp n vs H Q E → vs.length = ps.length)
    (b : ∀ (kV doc pm : Value) (an : Option Addr) (cdv ct : Value) (us : List Value), us.length = ps.length → bindArgs (PySem.W.fnOf x qual params body scope .none kV doc pm an cdv ct) ⟨us, []⟩ = pure (ps.zip us))
    (hbody : ∀ (cdv : Value) (A : Around) (outer : List Env) (s : Shared) (H : Hp) (vs : List V) (Q : VK) (E : XK), Room k (A.deeper (envOfC qual scope s.heap.objs.size f cdv)) → sp s.heap.objs.size vs H Q E →
      ∃ t, PSs (cxOf CX0 P w K mg base N qual scope f cdv A outer s H E).nox body t ∧ t { nx := fun _ H' => Q .non H', rt := Q } (start N vs) H) : FnN P w K mg base (k + 1) f sp := by
  have hB : Binds K fd ps [] := F.bindsN b
  obtain ⟨oc, od, dV, kV, doc, pm, an, cdv, ct, osl, rfl, lk, hcd, _, _⟩ := F.ex
  intro A outer s H us vs Q E hr e0 r hsp
  have hl := len _ _ _ _ _ hsp
  have hlu : us.length = ps.length := by rw [← r.length]; exact hl
  have KX : K.In s.heap := e0.mod.kin.keeps fun b o e => (e0.bs b o e).1
  have hbd := hB s us KX (by simpa using hlu)
  rw [List.append_nil] at hbd
  have hkind : ∀ y ∈ ps.zip us, scope.names.lookup y.1 = some .local ∨ (scope.names.lookup y.1 = some .cell ∧ ((cellsFrom (s.heap.objs.size + 1) scope.names []).lookup y.1).isSome = true) := fun y hy => by
    rcases S.par y.1 (List.of_mem_zip (show (y.1, y.2) ∈ ps.zip us from hy)).1 with q | q
    · exact .inl q
    · exact .inr ⟨q, PySem.W.cellsFrom_some _ _ _ (.inl q)⟩
  refine codeAny_call_function hr.depth (KX _ _ lk) rfl S.co S.gen rfl (PySem.W.codeRec_of KX hcd) (hbd _ _ _ _ ?_)
  refine wpAny_newFunctionEnv_cells S.kind hkind fun env he s1 z => ?_
  subst he
  refine ⟨(e0.mod.nolimit.keeps fun b o e => (e0.bs b o e).1).keeps z.toInCall.keep, codeAny_func ?_⟩
  obtain ⟨t, ht, hq⟩ := hbody cdv A outer s H vs Q E (hr.deeper _) hsp
  have I : Inv (cxOf CX0 P w K mg base N qual scope f cdv A outer s H E) [] (start N vs) H s1 := inv_start S hr.hd e0 hl r z
  refine wpAny_mono (ht.nox.run [] s1 (start N vs) H _ I hq) (fun fl s' hs => ?_) fun e s' hs => hs
  cases fl with
  | ret u => obtain ⟨v, σ', H', J, rv, q⟩ := hs; exact ⟨v, H', J.os, J.bare, J.base, J.hok, rv, q⟩
  | next => obtain ⟨σ', H', J, q⟩ := hs; exact ⟨.non, H', J.os, J.bare, J.base, J.hok, rfl, q⟩
  | brk => obtain ⟨_, _, _, q⟩ := hs; exact q.elim
  | cont => obtain ⟨_, _, _, q⟩ := hs; exact q.elim
/-- what such an __iter__ promises: an iterator of the tuple at a slot -/
def spIterN (n : Nat) (C : Addr) (W : Addr → Addr → Prop) : Sp := fun vs H Q _ => ∃ a l zs, vs = [.ref a] ∧ W a l ∧ H l = some (.tup zs) ∧ ∀ it, H it = Option.none → n ≤ it → Q (.ref it) (upd H it (TupItO l it))
def iOwn (K : PySem.W.Frag) (C : Addr) (sp : Nat → Sp) (te : TE) : TI := fun σ H R => te σ H fun x H1 => ∃ a dx vs, x = .ref a ∧ SlX.Slt H1 a C dx vs ∧
  ∀ n, sp n [.ref a] H1 (fun v H2 => ∃ it l, v = .ref it ∧ H2 it = some (TupItO l it) ∧ n ≤ it ∧ R (Itt K l) (ItX.dropH H2 it)) E0
theorem pi_own {X : Cx} {tg e : Expr} {te : TE} {C f : Addr} {n : Nat} {sp : Nat → Sp} (he : PE X e te) (m : Meth X.K C "__iter__" f) (F : FnN X.prog X.w X.K X.mg X.base n f sp) (hr : Room n X.A) : PI X tg e (iOwn X.K C sp te) := by
  refine ⟨fun pins s σ H R I h => ?_⟩
  refine thn (he.run pins s σ H _ I h) fun u s1 ⟨x, H1, I1, rx, a, dx, vs, ex, hs, q⟩ => ?_
  subst ex
  cases (show u = Value.ref a from rx)
  obtain ⟨sl, od, _, J, _⟩ := SlX.slt_inst I1 hs
  obtain ⟨m0, hF⟩ := I1.fr
  refine PySem.W.owit_iter hF I1.ok.mod.kin J m.at_ m.fn (wpAny_call (codeAny_mono (F X.A X.stack s1 H1 [.ref a] [.ref a] _ E0 hr I1.env0 (.cons rfl .nil) (q _)) fun r s2 hq => ?_))
  cases r with
  | error e => exact (pass0 (X := X) pins σ H1 s1 e s2 I1 hq)
  | ok fl =>
    cases fl with
    | next => exact False.elim hq
    | brk => exact False.elim hq
    | cont => exact False.elim hq
    | ret u =>
      obtain ⟨v, H2, I2, rv, it, l, ev, hit, hn, q2⟩ := I1.after hq
      subst ev
      cases (show u = Value.ref it from rv)
      have st : s2.heap.IsTupleIter it l 0 := (I2.hok it _ hit).1
      have hT : s2.TypeIs (.ref it) "tuple_iterator" := let ⟨o, ho, hc, _⟩ := st; ⟨o, ho, hc⟩
      refine wpAny_specialOf (name := Str.ofString "__next__") hT PySem.F.slot_tuple_iterator_next.lookup ?_
      refine ⟨it, [it], _, _, ItX.dropH H2 it, rfl, ItX.inv_drop I2 hit, turn_tuple l it, st, fun b hb => ?_, q2⟩
      obtain rfl : b = it := by simpa using hb
      exact ItX.inv_fp I2 hit (Nat.le_trans I1.sz hn)
end K61

set_option Elab.async false
set_option maxRecDepth 100000
set_option maxHeartbeats 4000000
/-! list(zip(s, t)) of two tuples: a new list of new pairs. -/
namespace K61
open PySem PySem.Spec PyProof.Rows L2
theorem zip_nolen : typeLookup (.type "zip") "__len__" = pure none := am_miss_of_fast (by decide +kernel)
theorem zip_nohint : typeLookup (.type "zip") "__length_hint__" = pure none := am_miss_of_fast (by decide +kernel)
section
variable {prog : Program} {w : World} {A : Around} {E : Value → Shared → Prop} {s : Shared} {z TI TO T i1 i2 l1 l2 : Addr} {f : Bool} {oT : Obj} {k1 k2 : Nat} {xs ys : Array Value}
theorem outT_item {x y : Value} {Q : Option Value → Shared → Prop} (D : ZipApart z TI TO i1 i2 l1 l2) (hz : IsZipHeld s.heap z TI TO T f) (hT : s.heap.get? T = some oT) (hTI : IsPair s.heap TI (.ref i1) (.ref i2))
    (h1 : s.heap.IsTupleIter i1 l1 k1) (h2 : s.heap.IsTupleIter i2 l2 k2) (hl1 : s.heap.IsTuple l1 xs) (hl2 : s.heap.IsTuple l2 ys) (hx : xs[k1]? = some x) (hy : ys[k2]? = some y)
    (hQ : ∀ h', IsZipHeld h' z TI TO T true → h'.IsTupleIter i1 l1 (k1 + 1) → h'.IsTupleIter i2 l2 (k2 + 1) → IsPair h' s.heap.objs.size x y → h'.objs.size = s.heap.objs.size + 1 →
      (∀ c o, c ≠ z → c ≠ i1 → c ≠ i2 → s.heap.get? c = some o → h'.get? c = some o) → Q (some (.ref s.heap.objs.size)) { s with heap := h' }) : wpAny (model prog w) A (pyNext (.ref z)) Q E s := by
  have hTy : s.TypeIs (.ref z) "zip" := ⟨_, hz, rfl⟩
  unfold pyNext
  refine wpAny_bind (wpAny_attempt (wpAny_callSpecial?_slot (name := Str.ofString "__next__") hTy PySem.F.slot_zip_next (wpAny_call_entry PySem.F.slot_zip_next hTy PySem.F.entry_zip_next ?_ (PySem.F.args_zip_next_1 _))))
  show wpAny _ _ (field (.ref z) 2 >>= _) _ _ _
  refine wpAny_bind (wpAny_field hz rfl (x := .bool false) rfl ?_)
  show wpAny _ _ (field (.ref z) 3 >>= _) _ _ _
  refine wpAny_bind (wpAny_field hz rfl (x := .ref TI) rfl (wpAny_bind (wpAny_seqItems hTI rfl ?_)))
  show wpAny _ _ (Builtin.SmallTypes.ownedTupleIsFree (.ref z) >>= _) _ _ _
  refine wpAny_bind (wpAny_tupleHeld_zip hz hT fun g1 gz gs => ?_)
  simp only [Bool.false_eq_true, if_false]
  refine wpAny_bind ?_
  rw [← Array.forIn_toList]
  simp only [List.forIn_cons, List.forIn_nil]
  refine wpAny_bind (wpAny_bind (wpAny_holding ?_))
  show wpAny _ _ (Builtin.SmallTypes.nextOf (.ref i1) >>= _) _ _ _
  refine wpAny_bind (RZ.nextOf_tuple_item (s := { s with heap := g1 }) (h1.extBut gs.extBut D.i1z) (hl1.extBut gs.extBut D.l1z) hx fun g2 p1 ps => wpAny_pure (wpAny_pure (wpAny_bind (wpAny_bind (wpAny_holding ?_)))))
  show wpAny _ _ (Builtin.SmallTypes.nextOf (.ref i2) >>= _) _ _ _
  refine wpAny_bind (RZ.nextOf_tuple_item (s := { s with heap := g2 }) ((h2.extBut gs.extBut D.i2z).extBut ps.extBut D.i12.symm) ((hl2.extBut gs.extBut D.l2z).extBut ps.extBut D.l2i1) hy fun g3 p2 pt => wpAny_pure (wpAny_pure (wpAny_pure ?_)))
  show wpAny _ _ (newTuple [x, y] >>= _) _ _ _
  refine wpAny_bind (wpAny_newTuple ?_)
  have n3 : g3.objs.size = s.heap.objs.size := by rw [pt.1, ps.1, gs.1]
  have z3 : IsZipHeld g3 z TI TO T true := pt.extBut _ _ D.i2z.symm (ps.extBut _ _ D.i1z.symm gz)
  have k3 : ∀ c o, c ≠ z → c ≠ i1 → c ≠ i2 → s.heap.get? c = some o → g3.get? c = some o := fun c o c1 c2 c3 e => pt.extBut _ _ c3 (ps.extBut _ _ c2 (gs.extBut _ _ c1 e))
  have q1 : g3.IsTupleIter i1 l1 (k1 + 1) := p1.extBut pt.extBut D.i12
  refine wpAny_pure ⟨_, rfl, wpAny_pure ?_⟩
  show Q (some (.ref g3.objs.size)) _
  have hp : IsPair (g3.push { cls := .type "tuple", data := .seq #[x, y] }) g3.objs.size x y := Heap.get?_push_size _ rfl
  have n4 : (g3.push { cls := .type "tuple", data := .seq #[x, y] }).objs.size = g3.objs.size + 1 := Heap.size_push ..
  rw [n3] at hp n4 ⊢
  exact hQ _ (Heap.get?_push_of_some _ z3) (q1.at fun o e => Heap.get?_push_of_some _ e) (p2.at fun o e => Heap.get?_push_of_some _ e) hp n4 fun c o c1 c2 c3 e => Heap.get?_push_of_some _ (k3 c o c1 c2 c3 e)
theorem outT_end {Q : Option Value → Shared → Prop} (hh : A.handled = none) (D : ZipApart z TI TO i1 i2 l1 l2) (hz : IsZipHeld s.heap z TI TO T f) (hT : s.heap.get? T = some oT) (hTI : IsPair s.heap TI (.ref i1) (.ref i2))
    (h1 : s.heap.IsTupleIter i1 l1 k1) (hl1 : s.heap.IsTuple l1 xs) (hx : xs[k1]? = none)
    (hQ : ∀ h', (∀ c o, c ≠ z → c ≠ i1 → c ≠ i2 → s.heap.get? c = some o → h'.get? c = some o) → Q none { s with heap := h' }) : wpAny (model prog w) A (pyNext (.ref z)) Q E s := by
  have hTy : s.TypeIs (.ref z) "zip" := ⟨_, hz, rfl⟩
  unfold pyNext
  refine wpAny_bind (wpAny_attempt (wpAny_callSpecial?_slot (name := Str.ofString "__next__") hTy PySem.F.slot_zip_next (wpAny_call_entry PySem.F.slot_zip_next hTy PySem.F.entry_zip_next ?_ (PySem.F.args_zip_next_1 _))))
  show wpAny _ _ (field (.ref z) 2 >>= _) _ _ _
  refine wpAny_bind (wpAny_field hz rfl (x := .bool false) rfl ?_)
  show wpAny _ _ (field (.ref z) 3 >>= _) _ _ _
  refine wpAny_bind (wpAny_field hz rfl (x := .ref TI) rfl (wpAny_bind (wpAny_seqItems hTI rfl ?_)))
  show wpAny _ _ (Builtin.SmallTypes.ownedTupleIsFree (.ref z) >>= _) _ _ _
  refine wpAny_bind (wpAny_tupleHeld_zip hz hT fun g1 gz gs => ?_)
  simp only [Bool.false_eq_true, if_false]
  refine wpAny_bind ?_
  rw [← Array.forIn_toList]
  simp only [List.forIn_cons, List.forIn_nil]
  refine wpAny_bind (wpAny_bind (wpAny_holding ?_))
  show wpAny _ _ (Builtin.SmallTypes.nextOf (.ref i1) >>= _) _ _ _
  refine wpAny_bind (RZ.nextOf_tuple_end (s := { s with heap := g1 }) hh (h1.extBut gs.extBut D.i1z) (hl1.extBut gs.extBut D.l1z) hx fun g2 e ps he => ?_)
  obtain ⟨o, ho, hc⟩ := he
  refine wpAny_bind (wpAny_isInstance (T := "StopIteration") (b := true) ⟨o, ho, hc⟩ isSubtype_stop ?_)
  exact wpAny_pure (hQ _ fun c o c1 c2 c3 e => ps _ _ c2 (gs.extBut _ _ c1 e))
end
/-- where the zip stands behind i turns -/
def ZipSt (h : Heap) (z TI TO i1 i2 l1 l2 : Addr) (q : Addr) (i : Nat) : Prop :=
  IsPair h TI (.ref i1) (.ref i2) ∧ h.IsTupleIter i1 l1 i ∧ h.IsTupleIter i2 l2 i ∧ ((IsZip h z TI TO .none ∧ ∃ a b, IsPair h TO a b) ∨ ∃ T f oT, IsZipHeld h z TI TO T f ∧ h.get? T = some oT ∧ T ≠ z ∧ T ≠ i1 ∧ T ≠ i2 ∧ T ≠ q)
theorem ZipSt.keep {h h' : Heap} {z TI TO i1 i2 l1 l2 q : Addr} {i : Nat} (st : ZipSt h z TI TO i1 i2 l1 l2 q i) (hq : q ≠ z ∧ q ≠ TI ∧ q ≠ TO ∧ q ≠ i1 ∧ q ≠ i2) (k : ∀ b o, b ≠ q → h.get? b = some o → h'.get? b = some o) : ZipSt h' z TI TO i1 i2 l1 l2 q i := by
  obtain ⟨a1, a2, a3, a4⟩ := st
  obtain ⟨q1, q2, q3, q4, q5⟩ := hq
  refine ⟨k _ _ q2.symm a1, a2.at fun o e => k _ o q4.symm e, a3.at fun o e => k _ o q5.symm e, ?_⟩
  rcases a4 with ⟨b1, a, b, b2⟩ | ⟨T, f, oT, b1, b2, r1, r2, r3, r4⟩
  · exact .inl ⟨k _ _ q1.symm b1, a, b, k _ _ q3.symm b2⟩
  · exact .inr ⟨T, f, oT, k _ _ q1.symm b1, k _ _ r4 b2, r1, r2, r3, r4⟩
def PairAt (H : Hp) (p : Addr) (x : V × V) : Prop := H p = some (.tup [x.1, x.2])
section
variable {X : Cx} {pins : List (Addr × Obj)} {σ : L2.St} {H0 : Hp} {z TI TO i1 i2 l1 l2 q : Addr}
theorem zip_loop {xs ys : List V} {Rs : Result → Shared → Prop} (hc : X.calm = true) (D : ZipApart z TI TO i1 i2 l1 l2) (hq : q ≠ z ∧ q ≠ TI ∧ q ≠ TO ∧ q ≠ i1 ∧ q ≠ i2) (hl : xs.length = ys.length) (hz : xs.length ≤ 1000) (hq0 : H0 q = none)
    (hx : SqT X.K H0 l1 xs) (hy : SqT X.K H0 l2 ys) {N : Nat} (hN : ∀ b ∈ [z, TI, TO, i1, i2], b < N)
    (hdone : ∀ ps H s, Inv X pins σ H s → Same H0 H → H q = some (.lst (ps.map V.ref)) → Each PairAt H ps (xs.zip ys) → Rs (.ok (.ret .none)) s) :
    ∀ (m : Nat) (i : Nat) (ps : List Addr) (H : Hp) (s : Shared), i + m = xs.length → Inv X pins σ H s → Same H0 H → H q = some (.lst (ps.map V.ref)) → Each PairAt H ps ((xs.zip ys).take i) →
      ZipSt s.heap z TI TO i1 i2 l1 l2 q i → (∀ b ∈ [z, TI, TO, i1, i2], FpOk X pins H b) → N ≤ s.heap.objs.size → codeAny (model X.prog X.w) X.A.in1 (.builtin "list.extend.loop" ⟨[.ref q, .ref z, .none], []⟩) Rs s := by
  intro m
  induction m with
  | zero =>
    intro i ps H s hi I hs hql hE st hf hsz
    refine codeAny_builtin PySem.F.entry_extend_loop ?_
    rw [Around.under_plainId PySem.F.plain_extend_loop _]
    show wpAny _ X.A.in1.in1 (pyNext (.ref z) >>= _) _ _ s
    have hx' : SqT X.K H l1 xs := by
      rcases hx with h | h
      · exact .inl (h.imp (hs _ _) fun ⟨o, e⟩ => ⟨o, hs _ _ e⟩)
      · exact .inr h
    have hy' : SqT X.K H l2 ys := by
      rcases hy with h | h
      · exact .inl (h.imp (hs _ _) fun ⟨o, e⟩ => ⟨o, hs _ _ e⟩)
      · exact .inr h
    obtain ⟨its, rv, p1, _⟩ := I.tuple hx'
    obtain ⟨its2, rv2, p2, _⟩ := I.tuple hy'
    have e1 : its.toArray[i]? = none := by have z := rv.length; simp; omega
    obtain ⟨a1, a2, a3, a4⟩ := st
    have fin : ∀ h' : Heap, (∀ c o, c ∉ [z, TI, TO, i1, i2] → s.heap.get? c = some o → h'.get? c = some o) → Rs (.ok (.ret .none)) { s with heap := h' } := fun h' hk => by
      refine hdone ps H _ (I.turnedL (t' := s.toks) (ch := [z, TI, TO, i1, i2]) (fun c o hb e => hk c o hb e) hf) hs hql ?_
      have : (xs.zip ys).take i = xs.zip ys := List.take_of_length_le (by rw [List.length_zip]; omega)
      rw [this] at hE
      exact hE
    rcases a4 with ⟨b1, a, b, b2⟩ | ⟨T, f, oT, b1, b2, r1, r2, r3, r4⟩
    · refine wpAny_bind (RZ.pyNext_zipT_end (A := X.A.in1.in1) (I.ok.hd hc) D b1 a1 b2 a2 a3 p1 p2 (.inl e1) fun h' hk => wpAny_pure ?_)
      exact fin h' fun c o hb e => hk c o (fun q' => hb (by simp [q'])) (fun q' => hb (by simp [q'])) (fun q' => hb (by simp [q'])) (fun q' => hb (by simp [q'])) e
    · refine wpAny_bind (outT_end (A := X.A.in1.in1) (I.ok.hd hc) D b1 b2 a1 a2 p1 e1 fun h' hk => wpAny_pure ?_)
      exact fin h' fun c o hb e => hk c o (fun q' => hb (by simp [q'])) (fun q' => hb (by simp [q'])) (fun q' => hb (by simp [q'])) e
  | succ m ih =>
    intro i ps H s hi I hs hql hE st hf hsz
    refine codeAny_builtin PySem.F.entry_extend_loop ?_
    rw [Around.under_plainId PySem.F.plain_extend_loop _]
    show wpAny _ X.A.in1.in1 (pyNext (.ref z) >>= _) _ _ s
    have hx' : SqT X.K H l1 xs := by
      rcases hx with h | h
      · exact .inl (h.imp (hs _ _) fun ⟨o, e⟩ => ⟨o, hs _ _ e⟩)
      · exact .inr h
    have hy' : SqT X.K H l2 ys := by
      rcases hy with h | h
      · exact .inl (h.imp (hs _ _) fun ⟨o, e⟩ => ⟨o, hs _ _ e⟩)
      · exact .inr h
    obtain ⟨its, rv, p1, _⟩ := I.tuple hx'
    obtain ⟨its2, rv2, p2, _⟩ := I.tuple hy'
    have ix : i < xs.length := by omega
    have iy : i < ys.length := by omega
    obtain ⟨u, hu, ru⟩ := rv.get (List.getElem?_eq_getElem ix)
    obtain ⟨u2, hu2, ru2⟩ := rv2.get (List.getElem?_eq_getElem iy)
    have e1 : its.toArray[i]? = some u := by simpa using hu
    have e2 : its2.toArray[i]? = some u2 := by simpa using hu2
    obtain ⟨a1, a2, a3, a4⟩ := st
    have lq : q < s.heap.objs.size := let ⟨_, e⟩ := objOk_get (I.hok q _ hql); Heap.lt_size e
    have step : ∀ h' : Heap, IsPair h' s.heap.objs.size u u2 → (∀ c o, c ∉ [z, TI, TO, i1, i2] → s.heap.get? c = some o → h'.get? c = some o) → ZipSt h' z TI TO i1 i2 l1 l2 q (i + 1) → h'.objs.size = s.heap.objs.size + 1 →
        wpAny (model X.prog X.w) X.A.in1.in1 (updateSeq q (·.push (.ref s.heap.objs.size)) >>= fun _ => again (.builtin "list.extend.loop" ⟨[.ref q, .ref z, .none], []⟩))
          (fun fin s' => match fin with | .done f => Rs (.ok f) s' | .again c' => c'.quiet = true ∧ codeAny (model X.prog X.w) X.A.in1 c' Rs s') (fun e s' => Rs (.error e) s') { s with heap := h' } := fun h' hp hk st' hsz' => by
      have new : ObjOk X.prog X.w (upd H s.heap.objs.size (.tup [xs[i], ys[i]])) h' s.heap.objs.size (.tup [xs[i], ys[i]]) :=
        ⟨by show 2 ≤ sizeLine; decide, [u, u2], .cons ru (.cons ru2 .nil), ⟨_, hp, rfl, _, rfl⟩⟩
      have hn : H s.heap.objs.size = none := I.hok.fresh (Nat.le_refl _)
      have I1 : Inv X pins σ (upd H s.heap.objs.size (.tup [xs[i], ys[i]])) { s with heap := h' } := I.turnedNew (t' := s.toks) (ch := [z, TI, TO, i1, i2]) hk hf (Nat.le_refl _) new
      have hql1 : upd H s.heap.objs.size (.tup [xs[i], ys[i]]) q = some (.lst (ps.map V.ref)) := by rw [upd_ne (Nat.ne_of_lt lq)]; exact hql
      obtain ⟨zl, itq, kq, rq, hlq, eq⟩ := I1.lstM hql1
      have lps : ps.length = i := by
        have z := hE.length
        rw [List.length_take, List.length_zip] at z
        omega
      refine wpAny_bind (wpAny_updateSeq eq rfl (wpAny_pure ⟨plainId_quiet PySem.F.plain_extend_loop _, ?_⟩) (by rw [List.size_toArray, ← rq.length, List.length_map]; have : sizeLine = 16777216 := sizeLine_eq; omega) (by show (itq.toArray.push _).size ≤ sizeLine + 1; rw [Array.size_push, List.size_toArray, ← rq.length, List.length_map]; have : sizeLine = 16777216 := sizeLine_eq; omega))
      have I2 := I1.lset (f := (·.push (.ref s.heap.objs.size))) (its' := itq ++ [.ref s.heap.objs.size]) (ys := ps.map V.ref ++ [V.ref s.heap.objs.size]) (t' := s.toks) hql1 eq (by simp) (rq.append (.cons (show RelV (V.ref s.heap.objs.size) (Value.ref s.heap.objs.size) from rfl) .nil)) (by rw [List.length_append, List.length_map, List.length_singleton]; have : sizeLine = 16777216 := sizeLine_eq; omega)
      have em : ps.map V.ref ++ [V.ref s.heap.objs.size] = (ps ++ [s.heap.objs.size]).map V.ref := by simp
      rw [em] at I2
      refine ih (i + 1) (ps ++ [s.heap.objs.size]) _ _ (by omega) I2 ?_ upd_same ?_ ?_ ?_ ?_
      · exact Same.mut (fun b v e => by rw [upd_ne (ne_of_none (hs _ _ e) hn)]; exact hs _ _ e) hq0
      · have tk : (xs.zip ys).take (i + 1) = (xs.zip ys).take i ++ [(xs[i], ys[i])] := by
          rw [List.take_succ, List.getElem?_eq_getElem (by rw [List.length_zip]; omega), List.getElem_zip]
          rfl
        rw [tk]
        refine Each.append (Each.mono (fun a v e => ?_) hE) (.cons ?_ .nil)
        · have na : a ≠ q := fun z => by rw [z] at e; unfold PairAt at e; rw [hql] at e; cases e
          show upd (upd _ _ _) q _ a = _
          rw [upd_ne na, upd_ne (ne_of_none e hn)]
          exact e
        · show upd (upd _ _ _) q _ s.heap.objs.size = _
          rw [upd_ne (Nat.ne_of_gt lq), upd_same]
      · exact st'.keep hq fun b o hb e => (Heap.get?_update_other _ _ (Ne.symm hb)).trans e
      · intro b hb
        obtain ⟨f0, f1⟩ := hf b hb
        have hlt : b < s.heap.objs.size := Nat.lt_of_lt_of_le (hN b hb) hsz
        have hbq : b ≠ q := by
          obtain ⟨q1, q2, q3, q4, q5⟩ := hq
          have e' : b = z ∨ b = TI ∨ b = TO ∨ b = i1 ∨ b = i2 := by simpa using hb
          rcases e' with e' | e' | e' | e' | e' <;> rw [e'] <;> first | exact q1.symm | exact q2.symm | exact q3.symm | exact q4.symm | exact q5.symm
        refine ⟨?_, f1⟩
        rw [upd_ne hbq, upd_ne (Nat.ne_of_lt hlt)]
        exact f0
      · show N ≤ (h'.update q _).objs.size
        rw [(Heap.SameBut.update ..).1, hsz']
        exact Nat.le_succ_of_le hsz
    have lt : ∀ {c o}, s.heap.get? c = some o → s.heap.objs.size ≠ c := fun e => Nat.ne_of_gt (Heap.lt_size e)
    have n1 : s.heap.objs.size ≠ i1 := let ⟨_, e, _⟩ := a2; lt e
    have n2 : s.heap.objs.size ≠ i2 := let ⟨_, e, _⟩ := a3; lt e
    rcases a4 with ⟨b1, a, b, b2⟩ | ⟨T, f, oT, b1, b2, r1, r2, r3, r4⟩
    · refine wpAny_bind (RZ.pyNext_zipT_item (A := X.A.in1.in1) D b1 a1 b2 a2 a3 p1 p2 e1 e2 fun h' c1 c2 c3 c4 c5 c6 hk => ?_)
      refine step h' c5 (fun c o hb e => hk c o (fun q' => hb (by simp [q'])) (fun q' => hb (by simp [q'])) (fun q' => hb (by simp [q'])) (fun q' => hb (by simp [q'])) e) ⟨hk _ _ D.TIz D.TITO D.TIi1 D.TIi2 a1, c3, c4, .inr ⟨_, false, _, c1, c5, lt b1, n1, n2, Nat.ne_of_gt lq⟩⟩ c6
    · refine wpAny_bind (outT_item (A := X.A.in1.in1) D b1 b2 a1 a2 a3 p1 p2 e1 e2 fun h' c1 c3 c4 c5 c6 hk => ?_)
      refine step h' c5 (fun c o hb e => hk c o (fun q' => hb (by simp [q'])) (fun q' => hb (by simp [q'])) (fun q' => hb (by simp [q'])) e) ⟨hk _ _ D.TIz D.TIi1 D.TIi2 a1, c3, c4, .inr ⟨T, true, oT, c1, hk _ _ r1 r2 r3 b2, r1, r2, r3, r4⟩⟩ c6
end
def tListZip (K : PySem.W.Frag) (ta : TA) : TE := fun σ H Q => ta σ H fun vs H1 => ∃ a b xs ys, vs = [.ref a, .ref b] ∧ SqT K H1 a xs ∧ SqT K H1 b ys ∧ xs.length = ys.length ∧ xs.length ≤ 1000 ∧
  ∀ q ps H2, H1 q = none → Same H1 H2 → H2 q = some (.lst (ps.map V.ref)) → Each PairAt H2 ps (xs.zip ys) → Q (.ref q) H2
section
variable {X : Cx}
theorem pe_listZip {e e2 : Expr} {ta : TA} {p p2 pos pos2 : Pos} (hg : Gl X "list") (hm : X.mg "list" = none) (hg2 : Gl X "zip") (hm2 : X.mg "zip" = none) (ha : PA X [e, e2] ta) (hc : X.calm = true := by rfl)
    (hs : starEach [e, e2] X.env = (false, eval e X.env) :: starEach [e2] X.env := by rfl) (hpl : (backTo pos2 (starEach [e2] X.env)).any (·.1) = false := by rfl)
    (na : starEach [.Call (.Name "zip" p2) [e, e2] [] pos2] X.env = (false, eval (.Call (.Name "zip" p2) [e, e2] [] pos2) X.env) :: starEach [] X.env := by rfl) :
    PE X (.Call (.Name "list" p) [.Call (.Name "zip" p2) [e, e2] [] pos2] [] pos) (tListZip X.K ta) := by
  refine ⟨fun pins s σ H Q I h => ?_⟩
  refine Call_ (ld_blt I hg hm boot_list (PyProof.Rows.callWith_type1 (args_cons (Call_ (ld_blt I hg2 hm2 PyProof.Rows.boot_zip (PyProof.Rows.callWith_type1 (thn (ha.run pos2 pins s σ H _ I h) fun us s1 ⟨vs, H1, I1, r1, q1⟩ => ?_) hs hpl))) na) na))
  obtain ⟨l1, l2, xs, ys, ex, hx, hy, hl, hz, q1⟩ := q1
  subst ex
  obtain ⟨u1, u2, rfl, r1, r2⟩ := vals2 r1
  cases (show u1 = Value.ref l1 from r1)
  cases (show u2 = Value.ref l2 from r2)
  obtain ⟨its, rv, p1, _⟩ := I1.tuple hx
  obtain ⟨its2, rv2, p2, _⟩ := I1.tuple hy
  obtain ⟨o1, ho1, _⟩ := id p1
  obtain ⟨o2, ho2, _⟩ := id p2
  have D := PySem.W.ktu_apart s1.heap.objs.size l1 l2 (Heap.lt_size ho1) (Heap.lt_size ho2)
  refine RZ.call_zipT (show s1.heap.IsTuple l1 its.toArray from p1) (show s1.heap.IsTuple l2 its2.toArray from p2) fun h' hz0 hTI hTO h1 h2 hsz hk => args_nil ?_
  have I2 : Inv X pins σ H1 { s1 with heap := h' } := I1.kept (t' := s1.toks) hk
  refine callType_codes (s := { s1 with heap := h' }) (Q₁ := fun obj s₁ => obj = .ref h'.objs.size ∧ s₁ = { s1 with heap := h'.push { cls := .type "list", data := .seq #[] } }) PySem.F.called_list (PySem.F.typeCall_list_1 _) PySem.F.entry_list_init
    (code_list_new _ ⟨rfl, rfl⟩) fun obj s₁ h₁ => ?_
  obtain ⟨rfl, rfl⟩ := h₁
  have hS : (h'.push { cls := .type "list", data := .seq #[] }).get? h'.objs.size = some { cls := .type "list", data := .seq #[] } := Heap.get?_push_size _ rfl
  refine ⟨⟨_, hS, rfl⟩, PySem.F.args_list_init_2 _ _, ?_⟩
  have fr : H1 h'.objs.size = none := I2.hok.fresh (Nat.le_refl _)
  have I3 : Inv X pins σ (upd H1 h'.objs.size (.lst [])) { s1 with heap := h'.push { cls := .type "list", data := .seq #[] } } := I2.lnew (its := []) (t' := s1.toks) .nil (Nat.zero_le _)
  have qs : ∀ j : Nat, j < 5 → (h'.objs.size : Nat) ≠ s1.heap.objs.size + j := fun j hj => by rw [hsz]; omega
  have zne : s1.heap.objs.size + 4 ≠ h'.objs.size := by rw [hsz]; omega
  show wpAny _ _ (do let old ← Builtin.List.listItems (.ref h'.objs.size); Builtin.List.listUpdate (.ref h'.objs.size) (fun _ => #[]); letGo old.toList.reverse; Builtin.List.listExtendWith (.ref h'.objs.size) (.ref (s1.heap.objs.size + 4)) .none) _ _ _
  refine wpAny_bind ?_
  unfold Builtin.List.listItems
  refine wpAny_bind (wpAny_seqItems hS rfl (wpAny_pure ?_))
  show wpAny _ _ (updateSeq h'.objs.size (fun _ => #[]) >>= fun _ => letGo (#[] : Array Value).toList.reverse >>= fun _ => Builtin.List.listExtendWith (.ref h'.objs.size) (.ref (s1.heap.objs.size + 4)) .none) _ _ _
  refine wpAny_bind (wpAny_updateSeq hS rfl ?_)
  have I4 := I3.lset (f := fun _ => #[]) (its := []) (its' := []) (ys := []) (t' := s1.toks) upd_same hS rfl .nil (Nat.zero_le _)
  rw [upd_upd] at I4
  have hS4 := Heap.get?_update_self (Obj.mapSeq (fun _ => (#[] : Array Value))) hS rfl
  refine wpAny_bind (wpAny_letGo ?_)
  generalize hg4 : (h'.push { cls := .type "list", data := .seq #[] }).update h'.objs.size (Obj.mapSeq (fun _ => (#[] : Array Value))) = g4 at I4 hS4
  have old4 : ∀ b o, h'.get? b = some o → g4.get? b = some o := fun b o e => by
    rw [← hg4]
    exact (Heap.get?_update_other _ _ (Nat.ne_of_gt (Heap.lt_size e))).trans (Heap.get?_push_of_some _ e)
  have sz4 : g4.objs.size = h'.objs.size + 1 := by rw [← hg4, (Heap.SameBut.update ..).1, Heap.size_push]
  have hTz : (({ s1 with heap := g4 } : Shared)).TypeIs (.ref (s1.heap.objs.size + 4)) "zip" := ⟨_, old4 _ _ hz0, rfl⟩
  have e1 : Builtin.List.listSameRef (.ref h'.objs.size) (.ref (s1.heap.objs.size + 4)) = false := by simp [Builtin.List.listSameRef]; exact fun z => zne z.symm
  unfold Builtin.List.listExtendWith
  refine wpAny_bind (wpAny_typeOf hTz ?_)
  rw [if_neg (by rw [e1]; decide)]
  refine wpAny_bind (wpAny_pyIter_zip (s := { s1 with heap := g4 }) (old4 _ _ hz0) ?_)
  refine wpAny_bind (wpAny_holding ?_)
  unfold Builtin.List.listLengthHint
  refine wpAny_bind (wpAny_specialOf hTz zip_nolen ?_)
  show wpAny _ _ (specialOf (Value.ref (s1.heap.objs.size + 4)) (Str.ofString "__length_hint__") >>= _) _ _ _
  refine wpAny_bind (wpAny_specialOf hTz zip_nohint (wpAny_pure ?_))
  show wpAny _ _ (rule "list.extend.makes-room" >>= fun _ => Builtin.List.listTouch (.ref h'.objs.size) >>= fun _ => again (.builtin "list.extend.loop" ⟨[.ref h'.objs.size, .ref (s1.heap.objs.size + 4), .none], []⟩)) _ _ _
  refine wpAny_bind (wpAny_rule (wpAny_bind ?_))
  show wpAny _ _ (updateSeq h'.objs.size (·.push .none) >>= fun _ => updateSeq h'.objs.size (·.pop)) _ _ _
  refine wpAny_bind (wpAny_updateSeq hS4 rfl ?_)
  have I5 := I4.lset (f := (·.push Value.none)) (its := []) (its' := [Value.none]) (ys := [.non]) (t' := s1.toks) upd_same hS4 (by simp) (.cons rfl .nil) (by rw [List.length_singleton, sizeLine_eq]; decide)
  rw [upd_upd] at I5
  have hS5 := Heap.get?_update_self (Obj.mapSeq (·.push Value.none)) hS4 rfl
  refine wpAny_updateSeq hS5 rfl ?_ (by show 1 ≤ sizeLine; rw [sizeLine_eq]; decide) (by show 0 ≤ sizeLine + 1; exact Nat.zero_le _)
  have I6 := I5.lset (f := (·.pop)) (its := [Value.none]) (its' := []) (ys := []) (t' := s1.toks) upd_same hS5 (by rfl) .nil (Nat.zero_le _)
  rw [upd_upd] at I6
  have old6 : ∀ b o, h'.get? b = some o → ((g4.update h'.objs.size (Obj.mapSeq (·.push Value.none))).update h'.objs.size (Obj.mapSeq (·.pop))).get? b = some o := fun b o e =>
    (Heap.get?_update_other _ _ (Nat.ne_of_gt (Heap.lt_size e))).trans ((Heap.get?_update_other _ _ (Nat.ne_of_gt (Heap.lt_size e))).trans (old4 b o e))
  have hN : ∀ b ∈ [s1.heap.objs.size + 4, s1.heap.objs.size + 2, s1.heap.objs.size + 3, s1.heap.objs.size, s1.heap.objs.size + 1], s1.heap.objs.size ≤ b ∧ b < s1.heap.objs.size + 5 := fun c hcm => by
    have e' : c = s1.heap.objs.size + 4 ∨ c = s1.heap.objs.size + 2 ∨ c = s1.heap.objs.size + 3 ∨ c = s1.heap.objs.size ∨ c = s1.heap.objs.size + 1 := by simpa using hcm
    rcases e' with z | z | z | z | z <;> rw [z] <;> exact ⟨by omega, by omega⟩
  refine wpAny_pure ⟨plainId_quiet PySem.F.plain_extend_loop _, zip_loop (H0 := H1) (N := s1.heap.objs.size + 5) hc D ⟨qs 4 (by decide), qs 2 (by decide), qs 3 (by decide), qs 0 (by decide), qs 1 (by decide)⟩ hl hz fr hx hy (fun b hb => (hN b hb).2) ?_ xs.length 0 [] _ _ (by omega) I6 (same_upd fr) upd_same .nil ?_ ?_ ?_⟩
  · intro ps H2 s2 I7 sm hq hE
    exact ⟨rfl, .ref _, H2, I7, rfl, q1 _ ps H2 fr sm hq hE⟩
  · exact ⟨old6 _ _ hTI, h1.at fun o e => old6 _ o e, h2.at fun o e => old6 _ o e, .inl ⟨old6 _ _ hz0, _, _, old6 _ _ hTO⟩⟩
  · intro b hb
    have hlt := hN b hb
    refine ⟨?_, (I1.fpOk (H' := H1) hlt.1 (I1.hok.fresh hlt.1)).2⟩
    rw [upd_ne (Nat.ne_of_lt (by rw [hsz]; exact hlt.2))]
    exact I1.hok.fresh hlt.1
  · show _ ≤ ((g4.update _ _).update _ _).objs.size
    rw [(Heap.SameBut.update ..).1, (Heap.SameBut.update ..).1, sz4, hsz]
    omega
end
end K61

set_option Elab.async false
/-! Rules with the text's part of the heap said by name, for use within comprehensions. -/
namespace K61
open PySem PySem.Spec PyProof.Rows L2
section
variable {X : Cx} {K : PySem.W.Frag}
theorem ixT (h : X.K = K) : IxR X (rIxT K) := h ▸ ix_tup
theorem ixL (h : X.K = K) : IxR X (rIxL K) := h ▸ ix_list
def rLenK (K : PySem.W.Frag) : List V → Hp → VK → Prop := fun xs H Q => ∃ p ys, xs = [V.ref p] ∧ (SqL K H p ys ∨ SqT K H p ys) ∧ Q (.int ys.length) H
theorem lenK (h : X.K = K) : CallR X (.builtin "len") (rLenK K) := by subst h; exact call_len_seq
def rTupOfK (K : PySem.W.Frag) : List V → Hp → VK → Prop := fun xs H Q => ∃ p ys, xs = [V.ref p] ∧ ((SqL K H p ys ∧ ∀ l, H l = none → Q (.ref l) (upd H l (.tup ys))) ∨ (SqT K H p ys ∧ Q (.ref p) H))
theorem tupOfK (h : X.K = K) : CallR X (.type "tuple") (rTupOfK K) := by subst h; exact call_tuple_of
theorem eqDK (h : X.K = K) (hu : X.A.units + 64 < cLine) : OpR X (compareOp .Eq) (rEqD K) := by subst h; exact op_eqD hu
theorem piT {tg l : Expr} {tl : TE} (h : X.K = K) (hl : PE X l tl) : PI X tg l (iTup K tl) := by subst h; exact pi_tup hl
theorem piL {tg l : Expr} {tl : TE} (h : X.K = K) (hl : PE X l tl) : PI X tg l (iList K tl) := by subst h; exact pi_list hl
theorem slL (h : X.K = K) : SlR X (rSlL K) := by subst h; exact sl_list
theorem peSl {e : Expr} {f : Str} {pos : Pos} {ta : TE} (h : X.K = K) (he : PE X e ta) (hb : attributeBase e f X.env (eval e X.env) = eval e X.env := by rfl) : PE X (.Attribute e f pos) (SlX.tSl K ta f) := by subst h; exact SlX.pe_sl he hb
theorem pgTup {es : List Expr} {k : Nat} {t : TGs} {n : Nat} {pos : Pos} (h : X.K = K) (hc : X.calm = true) (hs : PGs X es t)
    (hn : (assignEach es X.env).length = n := by rfl) (hst : (assignEach es X.env).findIdx? (·.1) = none := by rfl) : PG X (.Tuple es k pos) (gTup K n t) := by subst h; exact pg_tup hc hs hn hst
theorem listZip {e e2 : Expr} {ta : TA} {p p2 pos pos2 : Pos} (h : X.K = K) (hg : Gl X "list") (hm : X.mg "list" = none) (hg2 : Gl X "zip") (hm2 : X.mg "zip" = none) (ha : PA X [e, e2] ta) (hc : X.calm = true := by rfl)
    (hs : starEach [e, e2] X.env = (false, eval e X.env) :: starEach [e2] X.env := by rfl) (hpl : (backTo pos2 (starEach [e2] X.env)).any (·.1) = false := by rfl)
    (na : starEach [.Call (.Name "zip" p2) [e, e2] [] pos2] X.env = (false, eval (.Call (.Name "zip" p2) [e, e2] [] pos2) X.env) :: starEach [] X.env := by rfl) :
    PE X (.Call (.Name "list" p) [.Call (.Name "zip" p2) [e, e2] [] pos2] [] pos) (tListZip K ta) := by subst h; exact pe_listZip hg hm hg2 hm2 ha hc hs hpl na
theorem isiK (h : X.K = K) : CallR X (.builtin "isinstance") (rIsi K) := by subst h; exact call_isi
end
end K61

/-! Mirrors in plain Lean: tables, transversals, orders, what a group's table is. -/
namespace K61
open L2
/-- the columns -/
def colOf (rs : Rows) (k : Nat) : List Nat := rs.map fun r => r.getD k 0
def transp (rs : Rows) : Rows := (List.range rs.length).map (colOf rs)
def isRen (n : Nat) (l : List Nat) : Prop := l.Perm (List.range n)
/-- the signs that m marks -/
def img (rs : Rows) (m : List Nat) : List Nat := (rs.zip m).map fun z => z.1.getD z.2 0
/-- m marks a transversal -/
def Crs (rs : Rows) (m : List Nat) : Prop := m.Perm (List.range rs.length) ∧ (img rs m).Nodup
def HasX (rs : Rows) : Prop := ∃ m, Crs rs m
/-- the greatest power of two that divides n -/
def shareGo (n : Nat) : Nat → Nat → Nat
  | 0, f => f
  | k + 1, f => if n % (2 * f) = 0 then shareGo n k (2 * f) else f
def share (n : Nat) : Nat := shareGo n 64 1
/-- the turns from at back to s -/
def cycGo (l : List Nat) (s : Nat) : Nat → Nat → Option Nat
  | 0, _ => none
  | k + 1, at_ => if l.getD at_ 0 = s then some 1 else (cycGo l s k (l.getD at_ 0)).map (· + 1)
def ordO (l : List Nat) : Option Nat := cycGo l 0 64 0
def ordR (l : List Nat) : Nat := (ordO l).getD 0
def barM (rs : Rows) : Bool := decide (1 < share rs.length) && rs.any fun r => ordR r == share rs.length
structure Lat (rs : Rows) : Prop where
  pos : 0 < rs.length
  le : rs.length ≤ 12
  row : ∀ r ∈ rs, isRen rs.length r
  col : ∀ c ∈ transp rs, isRen rs.length c
  first : rs[0]? = some (List.range rs.length)
  heads : rs.map (fun r => r.getD 0 0) = List.range rs.length
structure Grp (rs : Rows) : Prop extends Lat rs where
  mul : ∀ x ∈ rs, ∀ y ∈ rs, rs[x.getD (y.getD 0 0) 0]? = some (y.map fun s => x.getD s 0)
  ord : ∀ r ∈ rs, ∃ k, ordO r = some k
end K61

set_option Elab.async false
set_option maxRecDepth 100000
set_option maxHeartbeats 4000000
/-! Comprehensions told by what their list holds. -/
namespace K61
open PySem PySem.Spec PyProof.Rows L2
/-- all but the thing at D stays -/
def SameX (D : Addr) (H H' : Hp) : Prop := ∀ b u, H b = some u → b ≠ D → H' b = some u
theorem Same.x {H H' : Hp} (h : Same H H') (D : Addr) : SameX D H H' := fun b u e _ => h b u e
theorem SameX.upd {D : Addr} {H H' : Hp} {o : HO} (h : SameX D H H') : SameX D H (L2.upd H' D o) := fun b u e n => by rw [upd_ne n]; exact h b u e n
theorem SameX.refl {D : Addr} {H : Hp} : SameX D H H := fun _ _ e _ => e
theorem sRefl {H : Hp} : Same H H := fun _ _ e => e
theorem SameX.trans {D : Addr} {H H' H'' : Hp} (a : SameX D H H') (b : SameX D H' H'') : SameX D H H'' := fun c u e n => b c u (a c u e n) n
theorem Same.ofX {D : Addr} {H H' : Hp} (a : SameX D H H') (hD : H D = none) : Same H H' := fun c u e => a c u e (ne_of_none e hD)
section
variable {J : It} {n : Nat} {G : Hp → Prop} {Y : Nat → Hp → V → Hp → Prop}
/-- every turn adds one item; R: what is known of the k-th -/
theorem lc_gen (w : Walk J n G Y) {g : TG} {te : TE} {vs : List Nat} {σ : L2.St} {H1 : Hp} {D : Addr} {Qd : Hp → Prop} (hn : n ≤ 1000) (hD : H1 D = none) (hG : ∀ H, Same H1 H → G H)
    (R : Hp → Nat → V → Prop) (hR : ∀ H H' k y, SameX D H H' → R H k y → R H' k y)
    (step : ∀ k x H H' acc (Kf : VK), k < n → Same H1 H → H D = some (.lst acc) → Y k H x H' → (∀ y H4, Same H H4 → R H4 k y → Kf y H4) → g x (wipe σ vs) H' fun σ2 H2 => wipe σ2 vs = wipe σ vs ∧ te σ2 H2 Kf)
    (done : ∀ ys H, Same H1 H → H D = some (.lst ys) → ys.length = n → (∀ k y, ys[k]? = some y → R H k y) → Qd H) :
    ∃ W : Nat → Nat → Hp → Prop, (∃ m, W 0 m (upd H1 D (.lst []))) ∧ ∀ i m H, W i m H →
      (J.stop i H ∧ Qd H) ∨ (J.go i H ∧ ∃ Nx : Hp → Prop, (∀ H', Nx H' → ∃ m', m' < m ∧ W (i + 1) m' H') ∧ ∀ x H', J.yld i H x H' → g x (wipe σ vs) H' fun σ2 H2 => wipe σ2 vs = wipe σ vs ∧ tYes σ2 H2 fun b H3 =>
        if b = true then te σ2 H3 fun y H4 => ∃ acc, H4 D = some (.lst acc) ∧ acc.length < sizeLine ∧ Nx (upd H4 D (.lst (acc ++ [y]))) else Nx H3) := by
  refine lc_it w (fun i H => Same H1 H ∧ ∃ ys, H D = some (.lst ys) ∧ ys.length = i ∧ ∀ k y, ys[k]? = some y → R H k y) ⟨same_upd hD, [], upd_same, rfl, fun k y e => by simp at e⟩ (fun i H _ p => hG H p.1) (fun i x H H' hi p y => ?_) (fun H p => ?_)
  · obtain ⟨sm, ys, hy, ly, hr⟩ := p
    refine step i x H H' ys _ hi sm hy y fun y' H4 q1 q2 => ?_
    have : sizeLine = 16777216 := sizeLine_eq
    refine ⟨ys, q1 _ _ hy, by omega, fun b u e => ?_, ys ++ [y'], upd_same, by rw [List.length_append, ly]; rfl, fun k z e => ?_⟩
    · rw [upd_ne (ne_of_none e hD)]
      exact q1 _ _ (sm _ _ e)
    · by_cases hk : k < ys.length
      · rw [List.getElem?_append_left hk] at e
        exact hR _ _ _ _ ((Same.x q1 D).upd) (hr k z e)
      · rw [List.getElem?_append_right (by omega)] at e
        have e0 : k - ys.length = 0 := by
          have z := (List.getElem?_eq_some_iff.mp e).1
          simp at z
          omega
        rw [e0] at e
        have : y' = z := by simpa using e
        subst this
        have ek : k = i := by omega
        rw [ek]
        exact hR _ _ _ _ (SameX.refl.upd) q2
  · obtain ⟨sm, ys, hy, ly, hr⟩ := p
    exact done ys H sm hy ly hr
/-- a turn adds c k, or nothing; nothing else is made -/
theorem lc_opt (w : Walk J n G Y) {g : TG} {tt : TT} {te : TE} {vs : List Nat} {σ : L2.St} {H1 : Hp} {D : Addr} {Qd : Hp → Prop} (hn : n ≤ 1000) (hD : H1 D = none) (hG : ∀ H, Same H1 H → G H) (c : Nat → Option V)
    (step : ∀ k x H H' (Kf : VK) (Kn : Hp → Prop), k < n → Same H1 H → H D = some (.lst ((List.range k).filterMap c)) → Y k H x H' → (∀ y H4, Same H H4 → c k = some y → Kf y H4) → (∀ H4, Same H H4 → c k = none → Kn H4) →
      g x (wipe σ vs) H' fun σ2 H2 => wipe σ2 vs = wipe σ vs ∧ tt σ2 H2 fun b H3 => if b = true then te σ2 H3 Kf else Kn H3)
    (done : ∀ H, Same H1 H → H D = some (.lst ((List.range n).filterMap c)) → Qd H) :
    ∃ W : Nat → Nat → Hp → Prop, (∃ m, W 0 m (upd H1 D (.lst []))) ∧ ∀ i m H, W i m H →
      (J.stop i H ∧ Qd H) ∨ (J.go i H ∧ ∃ Nx : Hp → Prop, (∀ H', Nx H' → ∃ m', m' < m ∧ W (i + 1) m' H') ∧ ∀ x H', J.yld i H x H' → g x (wipe σ vs) H' fun σ2 H2 => wipe σ2 vs = wipe σ vs ∧ tt σ2 H2 fun b H3 =>
        if b = true then te σ2 H3 fun y H4 => ∃ acc, H4 D = some (.lst acc) ∧ acc.length < sizeLine ∧ Nx (upd H4 D (.lst (acc ++ [y]))) else Nx H3) := by
  refine lc_it w (fun i H => Same H1 H ∧ H D = some (.lst ((List.range i).filterMap c))) ⟨same_upd hD, upd_same⟩ (fun i H _ p => hG H p.1) (fun i x H H' hi p y => ?_) (fun H p => done H p.1 p.2)
  obtain ⟨sm, hy⟩ := p
  have e1 : (List.range (i + 1)).filterMap c = (List.range i).filterMap c ++ (c i).toList := by
    rw [List.range_succ, List.filterMap_append]
    cases h : c i <;> simp [h]
  refine step i x H H' _ _ hi sm hy y (fun y' H4 s4 hc => ?_) (fun H4 s4 hc => ?_)
  · have l : ((List.range i).filterMap c).length ≤ i := by
      have := List.length_filterMap_le c (List.range i)
      rwa [List.length_range] at this
    have : sizeLine = 16777216 := sizeLine_eq
    refine ⟨_, s4 _ _ hy, by omega, fun b u e => ?_, by rw [upd_same, e1, hc]; rfl⟩
    rw [upd_ne (ne_of_none e hD)]
    exact s4 _ _ (sm _ _ e)
  · exact ⟨fun b u e => s4 _ _ (sm _ _ e), by rw [e1, hc]; simpa using s4 _ _ hy⟩
end
/-! ### equality of rows -/
theorem dpAllN {K : PySem.W.Frag} {H : Hp} : ∀ l : List Nat, DpAll K H (l.map vn) (l.map fun (i : Nat) => PyData.int i)
  | [] => .nil
  | i :: l => .cons (.int _) (dpAllN l)
theorem dpAllI {K : PySem.W.Frag} {H : Hp} : ∀ l : List Int, DpAll K H (l.map V.int) (l.map PyData.int)
  | [] => .nil
  | i :: l => .cons (.int _) (dpAllI l)
theorem eqvAllI : ∀ l m : List Int, PyData.eqvAll (l.map PyData.int) (m.map PyData.int) = decide (l = m)
  | [], [] => rfl
  | [], _ :: _ => rfl
  | _ :: _, [] => rfl
  | i :: l, j :: m => by
    show (i == j && PyData.eqvAll _ _) = _
    rw [eqvAllI l m]
    by_cases h : i = j <;> by_cases h2 : l = m <;> simp [h, h2]
theorem eqvAllN (l m : List Nat) : PyData.eqvAll (l.map fun (i : Nat) => PyData.int i) (m.map fun (i : Nat) => PyData.int i) = decide (l = m) := by
  have e : ∀ l : List Nat, (l.map fun (i : Nat) => PyData.int i) = (l.map fun (i : Nat) => (i : Int)).map PyData.int := fun l => by rw [List.map_map]; rfl
  rw [e, e, eqvAllI]
  by_cases h : l = m
  · simp [h]
  · rw [decide_eq_false h, decide_eq_false]
    intro z
    exact h (by
      have q : Function.Injective (fun (i : Nat) => (i : Int)) := fun a b h => Int.ofNat.inj h
      exact (List.map_inj_right (fun a b h => q h)).mp z)
theorem rgN (n : Nat) : rgV 0 (n : Int) = (List.range n).map vn := by
  unfold rgV
  have : ((n : Int) - 0).toNat = n := by omega
  rw [this]
  refine List.map_congr_left fun i _ => ?_
  show V.int (0 + (i : Int)) = V.int i
  rw [Int.zero_add]
theorem RgOk.n {n : Nat} (h : n ≤ 1000) : RgOk 0 (n : Int) := .of_le (by omega) (by omega) (by omega) (by omega)
theorem atV {xs : List V} {k : Nat} {v : V} (h : xs[k]? = some v) : atI xs (k : Int) = some v := atI_nat h
theorem atN {l : List Nat} {k : Nat} (h : k < l.length) : atI (l.map vn) (k : Int) = some (vn (l.getD k 0)) := atI_nat (by rw [List.getElem?_map, List.getElem?_eq_getElem h, List.getD_eq_getElem?_getD, List.getElem?_eq_getElem h]; rfl)
theorem sorted_range {n : Nat} {l : List Int} (p : l.Perm ((List.range n).map fun (i : Nat) => (i : Int))) (s : l.Pairwise (· ≤ ·)) : l = (List.range n).map fun (i : Nat) => (i : Int) := by
  refine List.Perm.eq_of_pairwise (le := (· ≤ ·)) (fun a b _ _ h1 h2 => Int.le_antisymm h1 h2) s ?_ p
  rw [List.pairwise_map]
  refine List.Pairwise.imp (R := fun (a b : Nat) => a < b) (fun {a b} h => ?_) List.pairwise_lt_range
  show ((a : Int) ≤ (b : Int))
  omega
theorem vn_inj {a b : Nat} (h : vn a = vn b) : a = b := Int.ofNat.inj (V.int.inj h)
theorem vns_inj {l m : List Nat} (h : l.map vn = m.map vn) : l = m := (List.map_inj_right fun _ _ => vn_inj).mp h
/-- refs one by one -/
theorem each_of {α : Type} {RR : Hp → Addr → α → Prop} {H : Hp} : ∀ (ys : List V) (f : Nat → α), (∀ k y, ys[k]? = some y → ∃ q, y = .ref q ∧ RR H q (f k)) → ∃ ps : List Addr, ys = ps.map V.ref ∧ Each RR H ps ((List.range ys.length).map f)
  | [], f, _ => ⟨[], rfl, .nil⟩
  | y :: ys, f, h => by
    obtain ⟨q, rfl, hq⟩ := h 0 y rfl
    obtain ⟨ps, e, hE⟩ := each_of ys (fun k => f (k + 1)) fun k y e => h (k + 1) y (by simpa using e)
    refine ⟨q :: ps, by rw [e]; rfl, ?_⟩
    rw [List.length_cons, List.range_succ_eq_map, List.map_cons, List.map_map]
    exact .cons hq hE
theorem ints_of : ∀ (ys : List V) (f : Nat → Nat), (∀ k y, ys[k]? = some y → y = vn (f k)) → ys = ((List.range ys.length).map f).map vn
  | [], f, _ => rfl
  | y :: ys, f, h => by
    have h0 := h 0 y rfl
    have e := ints_of ys (fun k => f (k + 1)) fun k y e => h (k + 1) y (by simpa using e)
    rw [List.length_cons, List.range_succ_eq_map, List.map_cons, List.map_map, List.map_cons, h0]
    refine congrArg _ ?_
    rw [e, List.length_map, List.length_map, List.length_range]
    rfl
theorem map_range_getD (l : List Nat) : (List.range l.length).map (fun k => l.getD k 0) = l := by
  refine List.ext_getElem? fun k => ?_
  by_cases h : k < l.length
  · rw [List.getElem?_map, List.getElem?_range h, List.getElem?_eq_getElem h, Option.map_some, List.getD_eq_getElem?_getD, List.getElem?_eq_getElem h]
    rfl
  · rw [List.getElem?_eq_none (by simpa using h), List.getElem?_eq_none (by omega)]
theorem map_range_get {α β : Type} (l : List α) (f : α → β) (g : Nat → β) (h : ∀ k x, l[k]? = some x → g k = f x) : (List.range l.length).map g = l.map f := by
  refine List.ext_getElem? fun k => ?_
  by_cases hk : k < l.length
  · rw [List.getElem?_map, List.getElem?_range hk, List.getElem?_map, List.getElem?_eq_getElem hk]
    exact congrArg some (h k _ (List.getElem?_eq_getElem hk))
  · rw [List.getElem?_eq_none (by simpa using hk), List.getElem?_eq_none (by simpa using hk)]
theorem Each.refs {α : Type} {RR : Hp → Addr → α → Prop} {H : Hp} {ps : List Addr} {xs : List α} {k : Nat} {y : V} (h : Each RR H ps xs) (e : (ps.map V.ref)[k]? = some y) : ∃ q x, y = .ref q ∧ xs[k]? = some x ∧ RR H q x := by
  rw [List.getElem?_map] at e
  cases hp : ps[k]? with
  | none => rw [hp] at e; cases e
  | some q =>
    rw [hp] at e
    obtain ⟨x, h1, h2⟩ := h.get hp
    exact ⟨q, x, (Option.some.inj e).symm, h1, h2⟩
theorem tyL {K : PySem.W.Frag} {H : Hp} {a : Addr} {xs : List V} (h : H a = some (.lst xs)) : tyV K "list" (.ref a) H := .inl ⟨rfl, xs, SqL.of h⟩
theorem TupN.sx {D p : Addr} {H H' : Hp} {l : List Nat} (t : TupN H p l) (s : SameX D H H') (n : p ≠ D) : TupN H' p l := s _ _ t n
theorem getD_of {α : Type} {l : List α} {j : Nat} {r d : α} (h : l[j]? = some r) : l.getD j d = r := by rw [List.getD_eq_getElem?_getD, h]; rfl
theorem all_true {ys : List V} {n : Nat} (h : ∀ (k : Nat) (y : V), ys[k]? = some y → y = V.bl true) (l : ys.length = n) : ys = (List.replicate n true).map V.bl := by
  rw [List.map_replicate, ← l]
  exact List.eq_replicate_iff.mpr ⟨rfl, fun b hb => let ⟨k, hk⟩ := List.mem_iff_getElem?.mp hb; h k b hk⟩
/-! ### instances with slots -/
theorem Slt.mono {H H' : Hp} {a C dx : Addr} {vs : List (Option V)} (h : SlX.Slt H a C dx vs) (s : Same H H') : SlX.Slt H' a C dx vs := by
  rcases h with ⟨h1, h2⟩ | ⟨h1, h2⟩
  · exact .inl ⟨s _ _ h1, h2⟩
  · exact .inr ⟨s _ _ h1, s _ _ h2⟩
theorem same_mk {H : Hp} {x dx : Addr} {o1 o2 : HO} (h1 : H x = none) (h2 : H dx = none) : Same H (upd (upd H dx o1) x o2) := fun b u e => by
  rw [upd_ne (ne_of_none e h1), upd_ne (ne_of_none e h2)]
  exact e
theorem Same.sl {H0 H : Hp} {x C dx : Addr} {vs : List (Option V)} (s : Same H0 H) (h1 : H0 x = none) (h2 : H0 dx = none) : Same H0 (SlX.slH H x C dx vs) := fun b u e => by
  rw [SlX.slH_ne (ne_of_none e h1) (ne_of_none e h2)]
  exact s _ _ e
theorem shapedT (ns : List Int) : SeqAt.shaped (.tuple (ns.map PyData.int)) = true := by
  simp [SeqAt.shaped, PyData.canLay0, PyData.depth, PySem.W.ke_canLayAll0, PySem.W.ke_depthAll]
theorem intN (l : List Nat) : (l.map fun (i : Nat) => PyData.int i) = (l.map fun (i : Nat) => (i : Int)).map PyData.int := by rw [List.map_map]; rfl
theorem shapedN (l : List Nat) : SeqAt.shaped (.tuple (l.map fun (i : Nat) => PyData.int i)) = true := by rw [intN]; exact shapedT _
/-- two rows are asked for equality -/
theorem eq_rows {K : PySem.W.Frag} {H : Hp} {a b : Addr} {l m : List Nat} {Q : VK} (ha : TupN H a l) (hb : TupN H b m) (q : Q (.bl (decide (l = m))) H) : rEqD K (.ref a) (.ref b) H Q :=
  ⟨_, _, .tup (SqT.of ha) (dpAllN l), .tup (SqT.of hb) (dpAllN m), shapedN l, shapedN m, by show Q (.bl (PyData.eqvAll _ _)) H; rw [eqvAllN]; exact q⟩
theorem ne_rows {K : PySem.W.Frag} {H : Hp} {a b : Addr} {l m : List Nat} {Q : VK} (ha : TupN H a l) (hb : TupN H b m) (q : Q (.bl (!decide (l = m))) H) : rNeD K (.ref a) (.ref b) H Q :=
  ⟨_, _, .tup (SqT.of ha) (dpAllN l), .tup (SqT.of hb) (dpAllN m), shapedN l, shapedN m, by show Q (.bl (!PyData.eqvAll _ _)) H; rw [eqvAllN]; exact q⟩
/-- a table -/
def TabAt (K : PySem.W.Frag) (H : Hp) (t : Addr) (rs : Rows) : Prop := ∃ dx p1 p2 r, SlX.Slt H t (He.ga K "Table") dx [some (.ref p1), some (vn rs.length), some (.ref p2), some (.ref r)] ∧ TupR H r rs
theorem TabAt.mono {K : PySem.W.Frag} {H H' : Hp} {t : Addr} {rs : Rows} (h : TabAt K H t rs) (s : Same H H') : TabAt K H' t rs := let ⟨dx, p1, p2, r, h1, h2⟩ := h; ⟨dx, p1, p2, r, Slt.mono h1 s, h2.mono s⟩
/-- a loop -/
def LoopAt (K : PySem.W.Frag) (H : Hp) (a : Addr) (rs : Rows) : Prop := ∃ dx m r t, SlX.Slt H a (He.ga K "Loop") dx [some (.ref m), some (.ref r), some (.ref t)] ∧ TupN H m (List.range rs.length) ∧ TupR H r rs ∧ TabAt K H t rs
theorem LoopAt.mono {K : PySem.W.Frag} {H H' : Hp} {t : Addr} {rs : Rows} (h : LoopAt K H t rs) (s : Same H H') : LoopAt K H' t rs := let ⟨dx, m, r, t, h1, h2, h3, h4⟩ := h; ⟨dx, m, r, t, Slt.mono h1 s, h2.mono s, h3.mono s, h4.mono s⟩
theorem dec_vn (n m : Nat) : decide (V.int (n : Int) = V.int (m : Int)) = decide (n = m) := by
  by_cases h : n = m
  · subst h; simp
  · rw [decide_eq_false h, decide_eq_false fun z => h (vn_inj z)]
theorem dec_v0 (n : Nat) : decide (V.int (n : Int) = V.int 0) = decide (n = 0) := dec_vn n 0
end K61

set_option Elab.async false
set_option maxRecDepth 100000
set_option maxHeartbeats 4000000
/-! Sets of ints made by comprehensions; walks over two tuples; different items counted. -/
namespace K61
open PySem PySem.Spec PyProof.Rows L2
theorem walk_zipT {K : PySem.W.Frag} {a b : Addr} {xs ys : List V} {n : Nat} (hn : n = min xs.length ys.length) : Walk (RZ.ItzT K a b) n (fun H => SqT K H a xs ∧ SqT K H b ys) (YPair (fun i => xs[i]?) (fun i => ys[i]?)) := by
  subst hn
  refine ⟨fun i _ hi q => ?_, fun _ q => ⟨xs, ys, q.1, q.2, by omega⟩, fun i H v H' _ q y => ?_⟩
  · have h1 : i < xs.length := by omega
    have h2 : i < ys.length := by omega
    exact ⟨xs, ys, xs[i], ys[i], q.1, q.2, List.getElem?_eq_getElem h1, List.getElem?_eq_getElem h2⟩
  · obtain ⟨T, x, z, h1, h2, h3, h4, h5⟩ := y
    exact ⟨T, x, z, h1, h2, h3, h4 xs q.1, h5 ys q.2⟩
theorem dedup_len : ∀ (ns acc : List Int), acc.Nodup → (ns.foldl step_dedup acc).length ≤ acc.length + ns.length ∧ ((ns.foldl step_dedup acc).length = acc.length + ns.length ↔ (acc ++ ns).Nodup)
  | [], acc, h => by simpa using h
  | c :: r, acc, h => by
    rw [List.foldl_cons]
    unfold step_dedup
    by_cases hc : c ∈ acc
    · rw [if_pos (List.any_eq_true.mpr ⟨c, hc, by simp⟩)]
      obtain ⟨h1, h2⟩ := dedup_len r acc h
      refine ⟨by rw [List.length_cons]; exact Nat.le_trans h1 (by omega), ?_⟩
      constructor
      · intro e
        have h1' : (List.foldl (fun σ k => if (σ.any fun x => x == k) = true then σ else σ ++ [k]) acc r).length ≤ acc.length + r.length := h1
        rw [List.length_cons] at e
        omega
      · intro z
        rw [List.nodup_append] at z
        exact absurd rfl (z.2.2 c hc c List.mem_cons_self)
    · rw [if_neg (fun z => hc (by obtain ⟨x, hx, e⟩ := List.any_eq_true.mp z; rw [← (by simpa using e : x = c)]; exact hx))]
      have hn : (acc ++ [c]).Nodup := List.nodup_append.mpr ⟨h, by simp, fun a ha b hb => by rw [List.mem_singleton.mp hb]; exact fun z => hc (z ▸ ha)⟩
      obtain ⟨h1, h2⟩ := dedup_len r (acc ++ [c]) hn
      rw [List.append_assoc] at h2
      rw [List.length_append, List.length_singleton] at h1 h2
      refine ⟨by rw [List.length_cons]; exact Nat.le_trans h1 (by omega), ?_⟩
      rw [List.length_cons]
      have e : acc.length + 1 + r.length = acc.length + (r.length + 1) := by omega
      rw [e] at h2
      exact h2
theorem metN_len (ns : List Int) : metN ns = ns.length ↔ ns.Nodup := by
  have e : metN ns = (ns.foldl step_dedup []).length := by
    unfold metN firstMet
    have : (List.range ns.length).map (fun i => ns.getD i 0) = ns := by
      refine List.ext_getElem? fun k => ?_
      by_cases h : k < ns.length
      · rw [List.getElem?_map, List.getElem?_range h, List.getElem?_eq_getElem h, Option.map_some, List.getD_eq_getElem?_getD, List.getElem?_eq_getElem h]
        rfl
      · rw [List.getElem?_eq_none (by simpa using h), List.getElem?_eq_none (by omega)]
    rw [this]
  rw [e]
  have := (dedup_len ns [] List.nodup_nil).2
  simpa using this
section
variable {J : It} {n : Nat} {G : Hp → Prop} {Y : Nat → Hp → V → Hp → Prop}
/-- a set made turn by turn of c 0, c 1, .. -/
theorem sc_gen {wd : World} (w : Walk J n G Y) {g : TG} {te : TE} {vs : List Nat} {σ : L2.St} {H1 : Hp} {D : Addr} {Qd : Hp → Prop} (hn : n ≤ 60) (hD : H1 D = none) (hG : ∀ H, Same H1 H → G H) (c : Nat → Int)
    (step : ∀ k x H H' (Kf : VK), k < n → Same H1 H → Y k H x H' → (∀ H4, Same H H4 → Kf (.int (c k)) H4) → g x (wipe σ vs) H' fun σ2 H2 => wipe σ2 vs = wipe σ vs ∧ te σ2 H2 Kf)
    (done : ∀ S N H, Same H1 H → H D = some (SetO wd D S N) → (N = n ↔ ((List.range n).map c).Nodup) → Qd H) :
    ∃ W : Nat → Nat → Hp → Prop, (∃ m, W 0 m (upd H1 D (SetO wd D (fun _ => false) 0))) ∧ ∀ i m H, W i m H →
      (J.stop i H ∧ Qd H) ∨ (J.go i H ∧ ∃ Nx : Hp → Prop, (∀ H', Nx H' → ∃ m', m' < m ∧ W (i + 1) m' H') ∧ ∀ x H', J.yld i H x H' → g x (wipe σ vs) H' fun σ2 H2 => wipe σ2 vs = wipe σ vs ∧ tYes σ2 H2 fun b H3 =>
        if b = true then te σ2 H3 (addI wd D Nx) else Nx H3) := by
  refine ⟨fun i m H => m = n - i ∧ i ≤ n ∧ Same H1 H ∧ ∃ S N, H D = some (SetO wd D S N) ∧ (∀ j, S j = true ↔ j ∈ (List.range i).map c) ∧ N ≤ i ∧ (N = i ↔ ((List.range i).map c).Nodup), ⟨n, by simp, Nat.zero_le _, same_upd hD, _, _, upd_same, by simp, Nat.le_refl _, by simp⟩, ?_⟩
  rintro i m H ⟨rfl, hi, sm, S, N, hS, hmem, hN, hnd⟩
  by_cases hlt : i < n
  · refine .inr ⟨w.goes i H hlt (hG H sm), fun H' => i + 1 ≤ n ∧ Same H1 H' ∧ ∃ S N, H' D = some (SetO wd D S N) ∧ (∀ j, S j = true ↔ j ∈ (List.range (i + 1)).map c) ∧ N ≤ i + 1 ∧ (N = i + 1 ↔ ((List.range (i + 1)).map c).Nodup), fun H' p => ⟨n - (i + 1), by omega, rfl, p⟩, fun x H' y => ?_⟩
    refine step i x H H' _ hlt sm (w.yields i H x H' hlt (hG H sm) y) fun H4 s4 => ?_
    have hb : scanBound = 16777216 ∨ 1000 < scanBound := by right; decide
    refine ⟨c i, S, N, rfl, s4 _ _ hS, ?_, hlt, ?_, _, _, upd_same, fun j => ?_, ?_, ?_⟩
    · rcases hb with z | z <;> omega
    · exact fun b u e => by rw [upd_ne (ne_of_none e hD)]; exact s4 _ _ (sm _ _ e)
    · rw [Bool.or_eq_true, hmem, decide_eq_true_iff, List.range_succ, List.map_append, List.mem_append]
      simp
    · split <;> omega
    · rw [List.range_succ, List.map_append, List.nodup_append]
      by_cases hc : S (c i) = true
      · rw [if_pos hc]
        refine ⟨fun z => by omega, fun z => ?_⟩
        exact absurd rfl (z.2.2 (c i) ((hmem _).mp hc) (c i) (by simp))
      · rw [if_neg hc]
        rw [Nat.add_right_cancel_iff, hnd]
        refine ⟨fun z => ⟨z, by simp, fun a ha b hb e => ?_⟩, fun z => z.1⟩
        have : b = c i := by simpa using hb
        rw [e, this] at ha
        exact hc ((hmem _).mpr ha)
  · have e : i = n := by omega
    subst e
    exact .inl ⟨w.stops H (hG H sm), done S N H sm hS hnd⟩
end
theorem nodup_map {α β : Type} {f : α → β} (hf : ∀ a b, f a = f b → a = b) {l : List α} : (l.map f).Nodup ↔ l.Nodup := by
  unfold List.Nodup
  rw [List.pairwise_map]
  exact ⟨fun h => h.imp fun z e => z (congrArg f e), fun h => h.imp fun z e => z (hf _ _ e)⟩
theorem nodup_cast {l : List Nat} : (l.map fun (i : Nat) => (i : Int)).Nodup ↔ l.Nodup := nodup_map fun _ _ => Int.ofNat.inj
theorem bAnd (a b : Nat) : Builtin.bitAnd (a : Int) (b : Int) = ((a &&& b : Nat) : Int) := by simp [Builtin.bitAnd]
theorem bXor (a b : Nat) : Builtin.bitXor (a : Int) (b : Int) = ((a ^^^ b : Nat) : Int) := by rw [Bits.bitXor_pp (Int.natCast_nonneg _) (Int.natCast_nonneg _), Int.toNat_natCast, Int.toNat_natCast]
end K61
set_option Elab.async false
set_option maxRecDepth 100000
set_option maxHeartbeats 4000000
/-! Comprehensions of two walks, the inner of m turns always. -/
namespace K61
open PySem PySem.Spec PyProof.Rows L2
section
variable {J : It} {n m : Nat} {G : Hp → Prop} {Y : Nat → Hp → V → Hp → Prop}
theorem lc2_gen (w : Walk J n G Y) {g g1 : TG} {wi1 : TI} {te : TE} {vs vs1 : List Nat} {σ : L2.St} {H1 : Hp} {D : Addr} {Qd : Hp → Prop} (hn : n * m ≤ 1000) (hD : H1 D = none) (hG : ∀ H, Same H1 H → G H)
    (R : Hp → Nat → V → Prop) (hR : ∀ H H' k y, SameX D H H' → R H k y → R H' k y)
    (step : ∀ i x H H' acc (Kt : L2.St → It → Hp → Prop), i < n → Same H1 H → H D = some (.lst acc) → Y i H x H' →
      (∀ σ2 J1 H4 G1 Y1, Walk J1 m G1 Y1 → Same H H4 → (∀ H5, SameX D H4 H5 → G1 H5) →
        (∀ j x5 H5 H6 (Kf : VK), j < m → SameX D H4 H5 → (∃ acc, H5 D = some (.lst acc)) → Y1 j H5 x5 H6 → (∀ y H7, Same H5 H7 → R H7 (i * m + j) y → Kf y H7) → g1 x5 (wipe σ2 vs1) H6 fun σ3 H7 => wipe σ3 vs1 = wipe σ2 vs1 ∧ te σ3 H7 Kf) → Kt σ2 J1 H4) →
      g x (wipe σ vs) H' fun σ2 H2 => wipe σ2 vs = wipe σ vs ∧ wi1 σ2 H2 (Kt σ2))
    (done : ∀ ys H, Same H1 H → H D = some (.lst ys) → ys.length = n * m → (∀ k y, ys[k]? = some y → R H k y) → Qd H) :
    ∃ W : Nat → Nat → Hp → Prop, (∃ m, W 0 m (upd H1 D (.lst []))) ∧ ∀ i m H, W i m H →
      (J.stop i H ∧ Qd H) ∨ (J.go i H ∧ ∃ Nx : Hp → Prop, (∀ H', Nx H' → ∃ m', m' < m ∧ W (i + 1) m' H') ∧ ∀ x H', J.yld i H x H' → g x (wipe σ vs) H' fun σ2 H2 => wipe σ2 vs = wipe σ vs ∧ tYes σ2 H2 fun b H3 =>
        if b = true then wi1 σ2 H3 fun J1 H4 => ∃ W1 : Nat → Nat → Hp → Prop, (∃ m, W1 0 m H4) ∧ ∀ j k H, W1 j k H →
          (J1.stop j H ∧ Nx H) ∨ (J1.go j H ∧ ∃ Nx1 : Hp → Prop, (∀ H', Nx1 H' → ∃ k', k' < k ∧ W1 (j + 1) k' H') ∧ ∀ x H', J1.yld j H x H' → g1 x (wipe σ2 vs1) H' fun σ3 H5 => wipe σ3 vs1 = wipe σ2 vs1 ∧ tYes σ3 H5 fun b H6 =>
            if b = true then te σ3 H6 fun y H7 => ∃ acc, H7 D = some (.lst acc) ∧ acc.length < sizeLine ∧ Nx1 (upd H7 D (.lst (acc ++ [y]))) else Nx1 H6) else Nx H3) := by
  have hz : sizeLine = 16777216 := sizeLine_eq
  refine ⟨fun i k H => k = n - i ∧ i ≤ n ∧ Same H1 H ∧ ∃ ys, H D = some (.lst ys) ∧ ys.length = i * m ∧ ∀ k y, ys[k]? = some y → R H k y, ⟨n, by simp, Nat.zero_le _, same_upd hD, [], upd_same, by simp, fun k y e => by simp at e⟩, ?_⟩
  rintro i k H ⟨rfl, hi, sm, ys, hy, ly, hr⟩
  by_cases hlt : i < n
  · refine .inr ⟨w.goes i H hlt (hG H sm), fun H' => i + 1 ≤ n ∧ Same H1 H' ∧ ∃ ys, H' D = some (.lst ys) ∧ ys.length = (i + 1) * m ∧ ∀ k y, ys[k]? = some y → R H' k y, fun H' p => ⟨n - (i + 1), by omega, rfl, p⟩, fun x H' y => ?_⟩
    refine step i x H H' ys _ hlt sm hy (w.yields i H x H' hlt (hG H sm) y) fun σ2 J1 H4 G1 Y1 w1 s4 hG1 st => ?_
    refine ⟨fun j k H5 => k = m - j ∧ j ≤ m ∧ SameX D H4 H5 ∧ ∃ ys, H5 D = some (.lst ys) ∧ ys.length = i * m + j ∧ ∀ k y, ys[k]? = some y → R H5 k y, ⟨m, by simp, Nat.zero_le _, SameX.refl, ys, s4 _ _ hy, ly, fun k y e => hR _ _ _ _ (Same.x s4 D) (hr k y e)⟩, ?_⟩
    rintro j k H5 ⟨rfl, hj, sx, ys5, hy5, ly5, hr5⟩
    by_cases hjm : j < m
    · refine .inr ⟨w1.goes j H5 hjm (hG1 H5 sx), fun H' => j + 1 ≤ m ∧ SameX D H4 H' ∧ ∃ ys, H' D = some (.lst ys) ∧ ys.length = i * m + (j + 1) ∧ ∀ k y, ys[k]? = some y → R H' k y, fun H' p => ⟨m - (j + 1), by omega, rfl, p⟩, fun x H6 y6 => ?_⟩
      refine st j x H5 H6 _ hjm sx ⟨ys5, hy5⟩ (w1.yields j H5 x H6 hjm (hG1 H5 sx) y6) fun y' H7 q1 q2 => ?_
      have b1 : i * m + j < n * m := by
        have : (i + 1) * m ≤ n * m := Nat.mul_le_mul_right m (by omega)
        rw [Nat.add_mul] at this
        omega
      refine ⟨ys5, q1 _ _ hy5, by omega, hjm, sx.trans ((Same.x q1 D).upd), ys5 ++ [y'], upd_same, by rw [List.length_append, ly5]; rfl, fun k z e => ?_⟩
      by_cases hk : k < ys5.length
      · rw [List.getElem?_append_left hk] at e
        exact hR _ _ _ _ ((Same.x q1 D).upd) (hr5 k z e)
      · rw [List.getElem?_append_right (by omega)] at e
        have e0 : k - ys5.length = 0 := by
          have z := (List.getElem?_eq_some_iff.mp e).1
          simp at z
          omega
        rw [e0] at e
        have : y' = z := by simpa using e
        subst this
        have ek : k = i * m + j := by omega
        rw [ek]
        exact hR _ _ _ _ (SameX.refl.upd) q2
    · have e : j = m := by omega
      subst e
      refine .inl ⟨w1.stops H5 (hG1 H5 sx), hlt, fun b u e => ?_, ys5, hy5, by rw [ly5, Nat.add_mul, Nat.one_mul], hr5⟩
      exact sx _ _ (s4 _ _ (sm _ _ e)) (ne_of_none e hD)
  · have e : i = n := by omega
    subst e
    exact .inl ⟨w.stops H (hG H sm), done ys H sm hy ly hr⟩
end
theorem cut1 (xs : List V) : cutV xs (some 1) none = xs.drop 1 := by
  unfold cutV
  have e : HT.sIx xs.length 0 (some 1) = min 1 xs.length := HT.sIx_nat xs.length 0 1
  rw [e, HT.sIx_none]
  cases xs with
  | nil => rfl
  | cons a l =>
    have : min 1 (a :: l).length = 1 := by rw [List.length_cons]; omega
    rw [this, List.take_of_length_le]
    simp
theorem Each.imp {α : Type} {R R' : Hp → Addr → α → Prop} {H H' : Hp} : ∀ {ps : List Addr} {xs : List α}, (∀ a ∈ ps, ∀ x, R H a x → R' H' a x) → Each R H ps xs → Each R' H' ps xs
  | _, _, _, .nil => .nil
  | _, _, h, .cons r t => .cons (h _ List.mem_cons_self _ r) (Each.imp (fun a ha x => h a (List.mem_cons_of_mem _ ha) x) t)
section
variable {J : It} {n : Nat} {G : Hp → Prop} {Y : Nat → Hp → V → Hp → Prop}
/-- every turn adds one new thing: they are different -/
theorem lc_new (w : Walk J n G Y) {g : TG} {te : TE} {vs : List Nat} {σ : L2.St} {H1 : Hp} {D : Addr} {Qd : Hp → Prop} (hn : n ≤ 1000) (hD : H1 D = none) (hG : ∀ H, Same H1 H → G H)
    (R : Hp → Nat → Addr → Prop) (hR : ∀ H H' k y, SameX D H H' → R H k y → R H' k y) (hx : ∀ H k y, R H k y → H y ≠ none)
    (step : ∀ k x H H' acc (Kf : VK), k < n → Same H1 H → H D = some (.lst acc) → Y k H x H' → (∀ q H4, Same H H4 → H q = none → R H4 k q → Kf (.ref q) H4) → g x (wipe σ vs) H' fun σ2 H2 => wipe σ2 vs = wipe σ vs ∧ te σ2 H2 Kf)
    (done : ∀ (qs : List Addr) H, Same H1 H → H D = some (.lst (qs.map V.ref)) → qs.length = n → qs.Nodup → (∀ k q, qs[k]? = some q → R H k q ∧ H1 q = none) → Qd H) :
    ∃ W : Nat → Nat → Hp → Prop, (∃ m, W 0 m (upd H1 D (.lst []))) ∧ ∀ i m H, W i m H →
      (J.stop i H ∧ Qd H) ∨ (J.go i H ∧ ∃ Nx : Hp → Prop, (∀ H', Nx H' → ∃ m', m' < m ∧ W (i + 1) m' H') ∧ ∀ x H', J.yld i H x H' → g x (wipe σ vs) H' fun σ2 H2 => wipe σ2 vs = wipe σ vs ∧ tYes σ2 H2 fun b H3 =>
        if b = true then te σ2 H3 fun y H4 => ∃ acc, H4 D = some (.lst acc) ∧ acc.length < sizeLine ∧ Nx (upd H4 D (.lst (acc ++ [y]))) else Nx H3) := by
  refine lc_it w (fun i H => Same H1 H ∧ ∃ qs : List Addr, H D = some (.lst (qs.map V.ref)) ∧ qs.length = i ∧ qs.Nodup ∧ ∀ k q, qs[k]? = some q → R H k q ∧ H1 q = none) ⟨same_upd hD, [], upd_same, rfl, List.nodup_nil, fun k y e => by simp at e⟩ (fun i H _ p => hG H p.1) (fun i x H H' hi p y => ?_) (fun H p => ?_)
  · obtain ⟨sm, qs, hy, ly, nd, hr⟩ := p
    refine step i x H H' _ _ hi sm hy y fun q H4 q1 q0 q2 => ?_
    have : sizeLine = 16777216 := sizeLine_eq
    refine ⟨_, q1 _ _ hy, by rw [List.length_map]; omega, fun b u e => ?_, qs ++ [q], by rw [upd_same, List.map_append]; rfl, by rw [List.length_append, ly]; rfl, ?_, fun k z e => ?_⟩
    · rw [upd_ne (ne_of_none e hD)]
      exact q1 _ _ (sm _ _ e)
    · refine List.nodup_append.mpr ⟨nd, by simp, fun a ha b hb => ?_⟩
      rw [List.mem_singleton.mp hb]
      intro z
      obtain ⟨k, hk⟩ := List.mem_iff_getElem?.mp ha
      exact hx _ _ _ (hr k a hk).1 (by rw [z]; exact q0)
    · by_cases hk : k < qs.length
      · rw [List.getElem?_append_left hk] at e
        exact ⟨hR _ _ _ _ ((Same.x q1 D).upd) (hr k z e).1, (hr k z e).2⟩
      · rw [List.getElem?_append_right (by omega)] at e
        have e0 : k - qs.length = 0 := by
          have z := (List.getElem?_eq_some_iff.mp e).1
          simp at z
          omega
        rw [e0] at e
        have : q = z := by simpa using e
        subst this
        have ek : k = i := by omega
        rw [ek]
        exact ⟨hR _ _ _ _ (SameX.refl.upd) q2, sm.free q0⟩
  · obtain ⟨sm, qs, hy, ly, nd, hr⟩ := p
    exact done qs H sm hy ly nd hr
end
end K61

/-! Masks of sets of signs; partial transversals. Plain Lean. -/
namespace K61
open L2
theorem perm_of {n : Nat} {l : List Nat} (hl : l.length = n) (hn : l.Nodup) (hb : ∀ x ∈ l, x < n) : l.Perm (List.range n) := by
  rw [List.perm_ext_iff_of_nodup hn List.nodup_range]
  intro a
  rw [List.mem_range]
  refine ⟨hb a, fun ha => ?_⟩
  by_cases h : a ∈ l
  · exact h
  have z := List.Nodup.length_le_of_subset (l₁ := a :: l) (l₂ := List.range n) (List.nodup_cons.mpr ⟨h, hn⟩) (fun x hx => by
    rw [List.mem_range]
    rcases List.mem_cons.mp hx with rfl | hx
    · exact ha
    · exact hb x hx)
  rw [List.length_cons, List.length_range] at z
  omega
/-! ### masks -/
def msk : List Nat → Nat
  | [] => 0
  | c :: C => msk C + 2 ^ c
theorem testBit_add {m c x : Nat} (h : m.testBit c = false) : (m + 2 ^ c).testBit x = (m.testBit x || decide (x = c)) := by
  rcases Nat.lt_trichotomy x c with hx | hx | hx
  · rw [Nat.add_comm, Nat.testBit_two_pow_add_gt hx, decide_eq_false (by omega), Bool.or_false]
  · subst hx
    rw [Nat.add_comm, Nat.testBit_two_pow_add_eq, h, decide_eq_true rfl]
    rfl
  · have e1 : m % 2 ^ (c + 1) = m % 2 ^ c := Nat.eq_of_testBit_eq fun i => by
      rw [Nat.testBit_mod_two_pow, Nat.testBit_mod_two_pow]
      by_cases hi : i = c
      · subst hi; rw [h]; simp
      · congr 1
        rw [decide_eq_decide]
        omega
    have p1 : 0 < 2 ^ c := Nat.two_pow_pos c
    have e2 : (m + 2 ^ c) / 2 ^ (c + 1) = m / 2 ^ (c + 1) := by
      have d := Nat.div_add_mod m (2 ^ (c + 1))
      rw [e1] at d
      have l := Nat.mod_lt m p1
      generalize m / 2 ^ (c + 1) = q at d
      generalize m % 2 ^ c = r at d l
      have e3 : m + 2 ^ c = 2 ^ (c + 1) * q + (r + 2 ^ c) := by omega
      rw [e3, Nat.mul_add_div (Nat.two_pow_pos _), Nat.div_eq_of_lt (by rw [Nat.pow_succ]; omega), Nat.add_zero]
    have key : ∀ y : Nat, y.testBit x = (y / 2 ^ (c + 1)).testBit (x - (c + 1)) := fun y => by
      rw [Nat.testBit_div_two_pow]
      congr 1
      omega
    rw [key, e2, ← key, decide_eq_false (by omega), Bool.or_false]
theorem msk_bit : ∀ {C : List Nat} (x : Nat), C.Nodup → (msk C).testBit x = decide (x ∈ C)
  | [], x, _ => by simp [msk]
  | c :: C, x, h => by
    obtain ⟨h1, h2⟩ := List.nodup_cons.mp h
    show (msk C + 2 ^ c).testBit x = _
    rw [testBit_add (by rw [msk_bit c h2, decide_eq_false h1]), msk_bit x h2]
    by_cases e : x = c <;> by_cases e2 : x ∈ C <;> simp [e, e2]
theorem msk_free {C : List Nat} {c : Nat} (h : C.Nodup) : msk C &&& 2 ^ c = 0 ↔ c ∉ C := by
  have := and_pos (e := msk C) (s := c)
  rw [msk_bit c h, decide_eq_true_iff] at this
  constructor
  · intro z y
    have := this.mpr y
    omega
  · intro z
    have h0 : ¬ (msk C &&& 2 ^ c > 0) := fun y => z (this.mp y)
    exact Nat.eq_zero_of_not_pos h0
theorem msk_mem {C C' : List Nat} (h : C.Nodup) (h' : C'.Nodup) (e : msk C = msk C') (x : Nat) : x ∈ C ↔ x ∈ C' := by
  have z := msk_bit x h
  rw [e, msk_bit x h'] at z
  exact (decide_eq_decide.mp z).symm
theorem msk_lt {n : Nat} {C : List Nat} (h : C.Nodup) (hb : ∀ x ∈ C, x < n) : msk C < 2 ^ n := by
  refine Nat.lt_pow_two_of_testBit _ fun i hi => ?_
  rw [msk_bit i h]
  exact decide_eq_false fun z => absurd (hb i z) (by omega)
theorem len_of_mem {C C' : List Nat} (h : C.Nodup) (h' : C'.Nodup) (e : ∀ x, x ∈ C ↔ x ∈ C') : C.length = C'.length :=
  Nat.le_antisymm (List.Nodup.length_le_of_subset h fun x hx => (e x).mp hx) (List.Nodup.length_le_of_subset h' fun x hx => (e x).mpr hx)
/-! ### partial transversals -/
/-- l goes on through the rows: C the columns, S the signs that are used -/
def ExtR (n : Nat) : Rows → List Nat → List Nat → List Nat → Prop
  | [], _, _, l => l = []
  | r :: rows, C, S, l => ∃ c l', l = c :: l' ∧ c < n ∧ c ∉ C ∧ r.getD c 0 ∉ S ∧ ExtR n rows (c :: C) (r.getD c 0 :: S) l'
theorem ext_iff {n : Nat} : ∀ {rows : Rows} {C S l : List Nat}, ExtR n rows C S l ↔ l.length = rows.length ∧ (∀ c ∈ l, c < n ∧ c ∉ C) ∧ l.Nodup ∧ (∀ s ∈ img rows l, s ∉ S) ∧ (img rows l).Nodup
  | [], C, S, l => by
    constructor
    · rintro rfl
      exact ⟨rfl, by simp, List.nodup_nil, by simp [img], by simp [img]⟩
    · exact fun h => List.eq_nil_of_length_eq_zero h.1
  | r :: rows, C, S, l => by
    constructor
    · rintro ⟨c, l', rfl, h1, h2, h3, h4⟩
      obtain ⟨e1, e2, e3, e4, e5⟩ := ext_iff.mp h4
      refine ⟨by rw [List.length_cons, List.length_cons, e1], fun x hx => ?_, List.nodup_cons.mpr ⟨fun z => (e2 c z).2 List.mem_cons_self, e3⟩, fun s hs => ?_, List.nodup_cons.mpr ⟨fun z => e4 _ z List.mem_cons_self, e5⟩⟩
      · rcases List.mem_cons.mp hx with rfl | hx
        · exact ⟨h1, h2⟩
        · exact ⟨(e2 x hx).1, fun z => (e2 x hx).2 (List.mem_cons_of_mem _ z)⟩
      · rcases List.mem_cons.mp (show s ∈ r.getD c 0 :: img rows l' from hs) with rfl | hs
        · exact h3
        · exact fun z => e4 s hs (List.mem_cons_of_mem _ z)
    · rintro ⟨e1, e2, e3, e4, e5⟩
      cases l with
      | nil => simp at e1
      | cons c l' =>
        have e4' : ∀ s ∈ r.getD c 0 :: img rows l', s ∉ S := e4
        have e5' : (r.getD c 0 :: img rows l').Nodup := e5
        obtain ⟨n1, n2⟩ := List.nodup_cons.mp e3
        obtain ⟨m1, m2⟩ := List.nodup_cons.mp e5'
        refine ⟨c, l', rfl, (e2 c List.mem_cons_self).1, (e2 c List.mem_cons_self).2, e4' _ List.mem_cons_self, ext_iff.mpr ⟨by simpa using e1, fun x hx => ⟨(e2 x (List.mem_cons_of_mem _ hx)).1, fun z => ?_⟩, n2, fun s hs z => ?_, m2⟩⟩
        · rcases List.mem_cons.mp z with rfl | z
          · exact n1 hx
          · exact (e2 x (List.mem_cons_of_mem _ hx)).2 z
        · rcases List.mem_cons.mp z with rfl | z
          · exact m1 hs
          · exact e4' s (List.mem_cons_of_mem _ hs) z
theorem ext_congr {n : Nat} {rows : Rows} {C S C' S' l : List Nat} (h1 : ∀ x, x ∈ C ↔ x ∈ C') (h2 : ∀ x, x ∈ S ↔ x ∈ S') (h : ExtR n rows C S l) : ExtR n rows C' S' l := by
  obtain ⟨e1, e2, e3, e4, e5⟩ := ext_iff.mp h
  exact ext_iff.mpr ⟨e1, fun c hc => ⟨(e2 c hc).1, fun z => (e2 c hc).2 ((h1 c).mpr z)⟩, e3, fun s hs z => e4 s hs ((h2 s).mpr z), e5⟩
theorem ext_crs {rs : Rows} {l : List Nat} : ExtR rs.length rs [] [] l ↔ Crs rs l := by
  rw [ext_iff]
  constructor
  · rintro ⟨e1, e2, e3, e4, e5⟩
    exact ⟨perm_of e1 e3 fun x hx => (e2 x hx).1, e5⟩
  · rintro ⟨p, h⟩
    refine ⟨by rw [p.length_eq, List.length_range], fun c hc => ⟨List.mem_range.mp (p.mem_iff.mp hc), by simp⟩, ?_, by simp, h⟩
    exact p.nodup_iff.mpr List.nodup_range
/-- used columns and signs -/
structure Used (n : Nat) (C S : List Nat) : Prop where
  c : C.Nodup
  s : S.Nodup
  cb : ∀ x ∈ C, x < n
  sb : ∀ x ∈ S, x < n
  len : C.length = S.length
theorem Used.cons {n c s : Nat} {C S : List Nat} (h : Used n C S) (h1 : c < n) (h2 : c ∉ C) (h3 : s < n) (h4 : s ∉ S) : Used n (c :: C) (s :: S) :=
  ⟨List.nodup_cons.mpr ⟨h2, h.c⟩, List.nodup_cons.mpr ⟨h4, h.s⟩, fun x hx => by rcases List.mem_cons.mp hx with rfl | hx; exact h1; exact h.cb x hx, fun x hx => by rcases List.mem_cons.mp hx with rfl | hx; exact h3; exact h.sb x hx, by rw [List.length_cons, List.length_cons, h.len]⟩
end K61

set_option Elab.async false
set_option maxRecDepth 100000
/-! The search's memory. -/
namespace K61
open PySem PySem.Spec PyProof.Rows L2
def keyN (a b : Nat) : List Key := [Sum.inl (a : Int), Sum.inl (b : Int)]
def keyOf (C S : List Nat) : List Key := keyN (msk C) (msk S)
theorem keyN_inj {a b c d : Nat} (h : keyN a b = keyN c d) : a = c ∧ b = d := by
  unfold keyN at h
  injection h with h1 h2
  injection h2 with h2 _
  exact ⟨Int.ofNat.inj (Sum.inl.inj h1), Int.ofNat.inj (Sum.inl.inj h2)⟩
structure DeadOk (n : Nat) (rs : Rows) (kvs : List (List Key × V)) : Prop where
  nd : (kvs.map (·.1)).Nodup
  ok : ∀ k ∈ kvs.map (·.1), ∃ C S, k = keyOf C S ∧ Used n C S ∧ ∀ l, ¬ ExtR n (rs.drop C.length) C S l
theorem DeadOk.nil {n : Nat} {rs : Rows} : DeadOk n rs [] := ⟨List.nodup_nil, by simp⟩
theorem used_same {n : Nat} {C S C' S' : List Nat} (h : Used n C S) (h' : Used n C' S') (e : keyOf C S = keyOf C' S') : (∀ x, x ∈ C ↔ x ∈ C') ∧ (∀ x, x ∈ S ↔ x ∈ S') ∧ C.length = C'.length := by
  obtain ⟨e1, e2⟩ := keyN_inj e
  have m1 := msk_mem h.c h'.c e1
  exact ⟨m1, msk_mem h.s h'.s e2, len_of_mem h.c h'.c m1⟩
theorem DeadOk.get {n : Nat} {rs : Rows} {kvs : List (List Key × V)} {C S : List Nat} (h : DeadOk n rs kvs) (u : Used n C S) (g : (valV kvs (keyOf C S)).isSome = true) : ∀ l, ¬ ExtR n (rs.drop C.length) C S l := by
  obtain ⟨v, hv⟩ := Option.isSome_iff_exists.mp g
  obtain ⟨C', S', e, u', no⟩ := h.ok _ (valV_in hv)
  obtain ⟨m1, m2, m3⟩ := used_same u u' e
  rw [m3]
  exact fun l hl => no l (ext_congr m1 m2 hl)
theorem keys_in {kvs : List (List Key × V)} {k : List Key} {v : V} (h : k ∈ kvs.map (·.1)) : (putK kvs k v).map (·.1) = kvs.map (·.1) := by
  unfold putK
  obtain ⟨p, hp, e⟩ := List.mem_map.mp h
  rw [if_pos (List.any_eq_true.mpr ⟨p, hp, by simpa using e⟩), List.map_map]
  refine List.map_congr_left fun q _ => ?_
  show (if q.1 = k then (q.1, v) else q).1 = q.1
  split <;> rfl
theorem keys_new {kvs : List (List Key × V)} {k : List Key} {v : V} (h : k ∉ kvs.map (·.1)) : (putK kvs k v).map (·.1) = kvs.map (·.1) ++ [k] := by
  unfold putK
  rw [if_neg (fun z => h (by obtain ⟨p, hp, e⟩ := List.any_eq_true.mp z; exact List.mem_map.mpr ⟨p, hp, by simpa using e⟩)), List.map_append]
  rfl
theorem nodup_snoc {α : Type} {l : List α} {a : α} (h : l.Nodup) (n : a ∉ l) : (l ++ [a]).Nodup := List.nodup_append.mpr ⟨h, by simp, fun x hx y hy => by rw [List.mem_singleton.mp hy]; exact fun z => n (z ▸ hx)⟩
theorem DeadOk.put {n : Nat} {rs : Rows} {kvs : List (List Key × V)} {C S : List Nat} {v : V} (h : DeadOk n rs kvs) (u : Used n C S) (no : ∀ l, ¬ ExtR n (rs.drop C.length) C S l) : DeadOk n rs (putK kvs (keyOf C S) v) := by
  by_cases hk : keyOf C S ∈ kvs.map (·.1)
  · refine ⟨?_, ?_⟩ <;> rw [keys_in hk]
    · exact h.nd
    · exact h.ok
  · refine ⟨?_, ?_⟩ <;> rw [keys_new hk]
    · exact nodup_snoc h.nd hk
    · intro k hk2
      rcases List.mem_append.mp hk2 with hk2 | hk2
      · exact h.ok k hk2
      · rw [List.mem_singleton.mp hk2]
        exact ⟨C, S, rfl, u, no⟩
theorem nodup_map_on {α β : Type} {f : α → β} {l : List α} (hf : ∀ a ∈ l, ∀ b ∈ l, f a = f b → a = b) (h : l.Nodup) : (l.map f).Nodup := by
  unfold List.Nodup
  rw [List.pairwise_map]
  exact List.Pairwise.imp_of_mem (fun ha hb ne e => ne (hf _ ha _ hb e)) h
/-- a key as one number -/
def codeK : List Key → Nat
  | [Sum.inl a, Sum.inl b] => a.toNat * 4096 + b.toNat
  | _ => 0
theorem codeK_of (a b : Nat) : codeK (keyN a b) = a * 4096 + b := by
  show (a : Int).toNat * 4096 + (b : Int).toNat = _
  rw [Int.toNat_natCast, Int.toNat_natCast]
theorem DeadOk.len {n : Nat} {rs : Rows} {kvs : List (List Key × V)} (h : DeadOk n rs kvs) (hn : n ≤ 12) : kvs.length < sizeLine := by
  have lt : ∀ {C : List Nat}, C.Nodup → (∀ x ∈ C, x < n) → msk C < 4096 := fun {C} h1 h2 => Nat.lt_of_lt_of_le (msk_lt h1 h2) (Nat.pow_le_pow_right (by decide) hn)
  have nd : (1 :: (kvs.map (·.1)).map codeK).Nodup := by
    refine List.nodup_cons.mpr ⟨fun z => ?_, nodup_map_on (fun a ha b hb e => ?_) h.nd⟩
    · obtain ⟨k, hk, e⟩ := List.mem_map.mp z
      obtain ⟨C, S, rfl, u, _⟩ := h.ok k hk
      unfold keyOf at e
      rw [codeK_of] at e
      have h1 : msk C = 0 := by omega
      have hC : C = [] := by
        cases C with
        | nil => rfl
        | cons c C =>
          have : 0 < 2 ^ c := Nat.two_pow_pos c
          unfold msk at h1
          omega
      have hS : S = [] := List.eq_nil_of_length_eq_zero (by rw [← u.len, hC]; rfl)
      rw [hC, hS] at e
      cases e
    · obtain ⟨C, S, rfl, u, _⟩ := h.ok a ha
      obtain ⟨C', S', rfl, u', _⟩ := h.ok b hb
      unfold keyOf at e ⊢
      rw [codeK_of, codeK_of] at e
      have l1 := lt u.s u.sb
      have l2 := lt u'.s u'.sb
      have e1 : msk C = msk C' := by omega
      have e2 : msk S = msk S' := by omega
      rw [e1, e2]
  have z := List.Nodup.length_le_of_subset (l₂ := List.range sizeLine) nd fun x hx => by
    rw [List.mem_range, sizeLine_eq]
    rcases List.mem_cons.mp hx with rfl | hx
    · decide
    · obtain ⟨k, hk, rfl⟩ := List.mem_map.mp hx
      obtain ⟨C, S, rfl, u, _⟩ := h.ok k hk
      unfold keyOf
      rw [codeK_of]
      have l1 := lt u.s u.sb
      have l2 := lt u.c u.cb
      omega
  rw [List.length_cons, List.length_map, List.length_map, List.length_range] at z
  exact z
/-- what is no dict of the kind stays, when but the dict at D changes -/
theorem SameX.keep {D b : Addr} {H H' : Hp} {u : HO} {kvs : List (List Key × V)} (s : SameX D H H') (hd : H D = some (.dT kvs)) (e : H b = some u) (nu : ∀ kvs, u ≠ .dT kvs) : H' b = some u := s b u e (fun z => by rw [z, hd] at e; exact nu kvs (Option.some.inj e).symm)
theorem tupN_keep {D p : Addr} {H H' : Hp} {l : List Nat} {kvs : List (List Key × V)} (s : SameX D H H') (hd : H D = some (.dT kvs)) (t : TupN H p l) : TupN H' p l := s.keep hd t (fun _ z => nomatch z)
theorem tupR_keep {D p : Addr} {H H' : Hp} {rs : Rows} {kvs : List (List Key × V)} (s : SameX D H H') (hd : H D = some (.dT kvs)) (t : TupR H p rs) : TupR H' p rs := by
  obtain ⟨ps, h1, h2⟩ := t
  exact ⟨ps, s.keep hd h1 (fun _ z => nomatch z), h2.mono fun a l q => tupN_keep s hd q⟩
theorem slt_keep {D a C dx : Addr} {H H' : Hp} {vs : List (Option V)} {kvs : List (List Key × V)} (s : SameX D H H') (hd : H D = some (.dT kvs)) (t : SlX.Slt H a C dx vs) : SlX.Slt H' a C dx vs := by
  rcases t with ⟨h1, h2⟩ | ⟨h1, h2⟩
  · exact .inl ⟨s.keep hd h1 (fun _ z => nomatch z), h2⟩
  · exact .inr ⟨s.keep hd h1 (fun _ z => by unfold SlX.SlO at z; cases z), s.keep hd h2 (fun _ z => nomatch z)⟩
/-- a search -/
def SearchAt (K : PySem.W.Frag) (H : Hp) (x dd : Addr) (rs : Rows) : Prop := ∃ dx r wt, SlX.Slt H x (He.ga K "Search") dx [some (.ref dd), some (.ref r), some (.ref wt)] ∧ TupR H r rs ∧ LstN H wt ((List.range (rs.length + 1)).map fun i => 2 ^ i)
theorem SearchAt.keep {K : PySem.W.Frag} {H H' : Hp} {x dd : Addr} {rs : Rows} {kvs : List (List Key × V)} (h : SearchAt K H x dd rs) (s : SameX dd H H') (hd : H dd = some (.dT kvs)) : SearchAt K H' x dd rs := by
  obtain ⟨dx, r, wt, h1, h2, h3⟩ := h
  exact ⟨dx, r, wt, slt_keep s hd h1, tupR_keep s hd h2, s.keep hd h3 (fun _ z => nomatch z)⟩
end K61

set_option Elab.async false
set_option maxRecDepth 100000
/-! Partial transversals row by row, for the count. -/
namespace K61
open PySem PySem.Spec PyProof.Rows L2
def Path (rs : Rows) : Nat → List Nat → List Nat → Prop
  | 0, C, S => C = [] ∧ S = []
  | i + 1, C, S => ∃ c C' S' row, C = c :: C' ∧ S = row.getD c 0 :: S' ∧ rs[i]? = some row ∧ c < rs.length ∧ c ∉ C' ∧ row.getD c 0 ∉ S' ∧ Path rs i C' S'
def PathK (rs : Rows) (i : Nat) (k : List Key) : Prop := ∃ C S, k = keyOf C S ∧ Path rs i C S
theorem Path.used {rs : Rows} (L : Lat rs) : ∀ {i : Nat} {C S : List Nat}, Path rs i C S → Used rs.length C S
  | 0, C, S, h => by obtain ⟨rfl, rfl⟩ := h; exact ⟨List.nodup_nil, List.nodup_nil, by simp, by simp, rfl⟩
  | i + 1, C, S, h => by
    obtain ⟨c, C', S', row, rfl, rfl, h1, h2, h3, h4, h5⟩ := h
    refine (Path.used L h5).cons h2 h3 ?_ h4
    have m := L.row row (List.mem_of_getElem? h1)
    have l : row.length = rs.length := by rw [m.length_eq, List.length_range]
    rw [List.getD_eq_getElem?_getD, List.getElem?_eq_getElem (by omega)]
    exact List.mem_range.mp (m.mem_iff.mp (List.getElem_mem _))
theorem path_ext {rs : Rows} : ∀ {i : Nat} {C S l : List Nat}, Path rs i C S → ExtR rs.length (rs.drop i) C S l → ∃ m, ExtR rs.length rs [] [] m
  | 0, C, S, l, h, e => by obtain ⟨rfl, rfl⟩ := h; exact ⟨l, e⟩
  | i + 1, C, S, l, h, e => by
    obtain ⟨c, C', S', row, rfl, rfl, h1, h2, h3, h4, h5⟩ := h
    have hi := (List.getElem?_eq_some_iff.mp h1)
    obtain ⟨hi, e1⟩ := hi
    refine path_ext h5 (l := c :: l) ?_
    rw [List.drop_eq_getElem_cons hi, e1]
    exact ⟨c, l, rfl, h2, h3, h4, e⟩
theorem ext_path {rs : Rows} {m : List Nat} (h : ExtR rs.length rs [] [] m) : ∀ i, i ≤ rs.length → ∃ C S l, Path rs i C S ∧ ExtR rs.length (rs.drop i) C S l
  | 0, _ => ⟨[], [], m, ⟨rfl, rfl⟩, h⟩
  | i + 1, hi => by
    obtain ⟨C, S, l, h1, h2⟩ := ext_path h i (by omega)
    rw [List.drop_eq_getElem_cons (show i < rs.length by omega)] at h2
    obtain ⟨c, l', rfl, a1, a2, a3, a4⟩ := h2
    exact ⟨c :: C, _, l', ⟨c, C, S, rs[i], rfl, rfl, List.getElem?_eq_getElem (by omega), a1, a2, a3, h1⟩, a4⟩
theorem path_end {rs : Rows} : (∃ C S, Path rs rs.length C S) ↔ HasX rs := by
  constructor
  · rintro ⟨C, S, h⟩
    obtain ⟨m, hm⟩ := path_ext (l := []) h (by rw [List.drop_length]; rfl)
    exact ⟨m, ext_crs.mp hm⟩
  · rintro ⟨m, hm⟩
    obtain ⟨C, S, l, h, _⟩ := ext_path (ext_crs.mpr hm) rs.length (Nat.le_refl _)
    exact ⟨C, S, h⟩
end K61

set_option Elab.async false
set_option maxRecDepth 100000
/-! Halves: the table of equations in the heap. -/
namespace K61
open PySem PySem.Spec PyProof.Rows L2
theorem SameX.keepK {D b : Addr} {H H' : Hp} {u : HO} {kvs : List (Key × V)} (s : SameX D H H') (hd : H D = some (.dK kvs)) (e : H b = some u) (nu : ∀ kvs, u ≠ .dK kvs) : H' b = some u := s b u e (fun z => by rw [z, hd] at e; exact nu kvs (Option.some.inj e).symm)
theorem slt_keepK {D a C dx : Addr} {H H' : Hp} {vs : List (Option V)} {kvs : List (Key × V)} (s : SameX D H H') (hd : H D = some (.dK kvs)) (t : SlX.Slt H a C dx vs) : SlX.Slt H' a C dx vs := by
  rcases t with ⟨h1, h2⟩ | ⟨h1, h2⟩
  · exact .inl ⟨s.keepK hd h1 (fun _ z => nomatch z), h2⟩
  · exact .inr ⟨s.keepK hd h1 (fun _ z => by unfold SlX.SlO at z; cases z), s.keepK hd h2 (fun _ z => nomatch z)⟩
def kvD (D : Tb) : List (Key × V) := D.map fun p => (Sum.inl (p.1 : Int), vn p.2)
theorem kvD_val : ∀ (D : Tb) (s : Nat), valV (kvD D) (Sum.inl (s : Int) : Key) = (D.lookup s).map vn
  | [], s => rfl
  | (a, e) :: D, s => by
    show valV ((Sum.inl (a : Int), vn e) :: kvD D) _ = _
    rw [List.lookup_cons]
    by_cases h : s = a
    · subst h
      rw [valV_pos rfl, beq_self_eq_true]
      rfl
    · rw [valV_neg (fun z => h (Int.ofNat.inj (Sum.inl.inj z)).symm), kvD_val D s, beq_eq_false_iff_ne.mpr h]
theorem kvD_put {D : Tb} {s e : Nat} (h : D.lookup s = none) : putK (kvD D) (Sum.inl (s : Int) : Key) (vn e) = kvD (D ++ [(s, e)]) := by
  rw [putK_new _ (by rw [kvD_val, h]; rfl)]
  unfold kvD
  rw [List.map_append]
  rfl
theorem Good.len {n : Nat} {D : Tb} (h : Good n D) : D.length ≤ n := by
  have z := List.Nodup.length_le_of_subset (l₂ := List.range n) h.nd fun x hx => by
    obtain ⟨p, hp, rfl⟩ := List.mem_map.mp hx
    exact List.mem_range.mpr (h.lt p hp)
  rwa [List.length_map, List.length_range] at z
def HalvesAt (K : PySem.W.Frag) (H : Hp) (x dd : Addr) (n : Nat) (D : Tb) : Prop := ∃ dx wt, SlX.Slt H x (He.ga K "Halves") dx [some (vn (2 ^ n)), some (vn n), some (.ref dd), some (.ref wt)] ∧ LstN H wt ((List.range (n + 1)).map fun i => 2 ^ i) ∧ H dd = some (.dK (kvD D))
theorem HalvesAt.mono {K : PySem.W.Frag} {H H' : Hp} {x dd : Addr} {n : Nat} {D : Tb} (h : HalvesAt K H x dd n D) (s : Same H H') : HalvesAt K H' x dd n D := let ⟨dx, wt, h1, h2, h3⟩ := h; ⟨dx, wt, Slt.mono h1 s, s _ _ h2, s _ _ h3⟩
theorem wat {n c : Nat} (hc : c ≤ n) : atI (((List.range (n + 1)).map fun i => 2 ^ i).map vn) (c : Int) = some (vn (2 ^ c)) := by
  refine atV ?_
  rw [List.getElem?_map, List.getElem?_map, List.getElem?_range (by omega)]
  rfl
/-- bits as they stand in a list -/
def bitOf (bs : List Nat) : Nat → Bool := fun s => bs.getD s 0 == 1
theorem eqn_top {n e : Nat} (h : Eqn n e) : 2 ^ n ≤ e ↔ e.testBit n = true := by
  constructor
  · intro z
    cases q : e.testBit n with
    | true => rfl
    | false =>
      have : e < 2 ^ n := Nat.lt_pow_two_of_testBit _ fun i hi => by
        by_cases hin : i = n
        · rw [hin]; exact q
        · exact h i (by omega)
      omega
  · intro z
    exact Nat.ge_two_pow_of_testBit z
/-- the sum of what is taken, mod 2 -/
theorem sum_par (g : Nat → Bool) (v : Nat → Nat) (hv : ∀ t, v t ≤ 1) : ∀ (l : List Nat), ((l.filterMap fun t => if g t = true then some ((v t : Nat) : Int) else none).sum % 2 = if l.foldl (fun a t => a ^^ (g t && (v t == 1))) false = true then 1 else 0) ∧ 0 ≤ (l.filterMap fun t => if g t = true then some ((v t : Nat) : Int) else none).sum
  | [] => ⟨rfl, Int.le_refl _⟩
  | t :: l => by
    obtain ⟨ih, ih2⟩ := sum_par g v hv l
    rw [List.foldl_cons, fold_start (fun t => g t && (v t == 1)), List.filterMap_cons]
    cases hg : g t with
    | false =>
      simp only [Bool.false_and, Bool.xor_false, Bool.false_xor, Bool.false_eq_true, if_false]
      exact ⟨ih, ih2⟩
    | true =>
      simp only [Bool.true_and, Bool.false_xor, if_true]
      rw [List.sum_cons]
      have := hv t
      rcases (show v t = 0 ∨ v t = 1 by omega) with h | h
      · rw [h]
        refine ⟨?_, by omega⟩
        rw [show ((0 : Nat) == 1) = false from rfl, Bool.false_xor, show (((0 : Nat) : Int) + _) = _ from Int.zero_add _]
        exact ih
      · rw [h]
        refine ⟨?_, by omega⟩
        rw [show ((1 : Nat) == 1) = true from rfl, Bool.true_xor]
        generalize List.foldl _ false l = p at ih ⊢
        cases p
        · rw [if_neg Bool.false_ne_true] at ih
          show (1 + _) % 2 = if true = true then (1 : Int) else 0
          rw [if_pos rfl]
          omega
        · rw [if_pos rfl] at ih
          show (1 + _) % 2 = if false = true then (1 : Int) else 0
          rw [if_neg Bool.false_ne_true]
          omega
theorem desc_of {D : Tb} {ys : List Int} (hn : (D.map (·.1)).Nodup) (hp : ys.Perm (D.map fun p => (p.1 : Int))) (hs : ys.Pairwise (· ≤ ·)) : ∃ ds : List Nat, (ys.map V.int).reverse = ds.map vn ∧ (∀ s, s ∈ ds ↔ s ∈ D.map (·.1)) ∧ ds.Pairwise (· > ·) := by
  have e1 : (D.map fun p => (p.1 : Int)) = (D.map (·.1)).map fun (i : Nat) => (i : Int) := by rw [List.map_map]; rfl
  rw [e1] at hp
  have hy : ys = (ys.map Int.toNat).map fun (i : Nat) => (i : Int) := by
    rw [List.map_map]
    refine (List.map_id ys).symm.trans (List.map_congr_left fun y h => ?_)
    obtain ⟨i, _, rfl⟩ := List.mem_map.mp (hp.mem_iff.mp h)
    rfl
  have hp2 : (ys.map Int.toNat).Perm (D.map (·.1)) := by
    have := hp.map Int.toNat
    rwa [List.map_map, show (Int.toNat ∘ fun (i : Nat) => (i : Int)) = id from rfl, List.map_id] at this
  refine ⟨(ys.map Int.toNat).reverse, ?_, fun s => ?_, ?_⟩
  · rw [List.map_reverse]
    conv => lhs; rw [hy]
    rw [List.map_map]
    rfl
  · rw [List.mem_reverse, hp2.mem_iff]
  · rw [List.pairwise_reverse]
    have nd := hp2.nodup_iff.mpr hn
    rw [hy, List.pairwise_map] at hs
    exact (List.Pairwise.and hs nd).imp fun {a b} h => by
      obtain ⟨h1, h2⟩ := h
      have : (a : Int) ≤ (b : Int) := h1
      show b > a
      omega
theorem take_gt {ds : List Nat} (h : ds.Pairwise (· > ·)) {i : Nat} (hi : i < ds.length) : ∀ t ∈ ds.take i, t > ds[i] := by
  intro t ht
  obtain ⟨j, hj, e⟩ := List.mem_take_iff_getElem.mp ht
  rw [← e]
  exact List.pairwise_iff_getElem.mp h j i (by omega) hi (by omega)
theorem par_tail {n e s : Nat} {bs : List Nat} (hb : ∀ t, bs.getD t 0 ≤ 1) (he : Eqn n e) :
    ((((List.range (n - (s + 1))).map fun k => s + 1 + k).filterMap fun t => if e.testBit t = true then some ((bs.getD t 0 : Nat) : Int) else none).sum + (if decide (2 ^ n ≤ e) = true then 1 else 0)) % 2 = ((if tailX n (bitOf bs) e s = true then 1 else 0 : Nat) : Int) := by
  obtain ⟨h1, h2⟩ := sum_par (fun t => e.testBit t) (fun t => bs.getD t 0) hb ((List.range (n - (s + 1))).map fun k => s + 1 + k)
  unfold tailX
  have ed : decide (2 ^ n ≤ e) = e.testBit n := by
    cases q : e.testBit n with
    | true => exact decide_eq_true ((eqn_top he).mpr q)
    | false => exact decide_eq_false fun z => by rw [(eqn_top he).mp z] at q; cases q
  rw [ed]
  generalize (List.filterMap (fun t => if e.testBit t = true then some ((bs.getD t 0 : Nat) : Int) else none) ((List.range (n - (s + 1))).map fun k => s + 1 + k)).sum = S at h1 h2 ⊢
  have ef : (((List.range (n - (s + 1))).map fun k => s + 1 + k).foldl (fun a t => a ^^ (e.testBit t && bitOf bs t)) false) = (((List.range (n - (s + 1))).map fun k => s + 1 + k).foldl (fun a t => a ^^ (e.testBit t && (bs.getD t 0 == 1))) false) := rfl
  rw [ef]
  generalize List.foldl _ false _ = p at h1 ⊢
  cases p <;> cases e.testBit n <;> simp at h1 ⊢ <;> omega
end K61

set_option Elab.async false
set_option maxRecDepth 100000
set_option maxHeartbeats 4000000
namespace K61
open PySem PySem.Spec PyProof.Rows L2
section
variable {P : Program} {w : World} {K : PySem.W.Frag} {mg : Str → Option Value} {base : Heap}
def spWhole : Sp := fun vs H Q _ => ∃ v, vs = [v] ∧ ((∃ i, v = .int i ∧ Q (.bl true) H) ∨ ∃ b, v = .bl b ∧ Q (.bl false) H)
theorem sc_is_whole : FnScope ["value"] ["value"] (defScope (top 11)) := ⟨rfl, rfl, rfl, by decide +kernel, rfl, by decide +kernel, by decide +kernel⟩
theorem ok_is_whole (T : Txt K mg) : Cal P w K mg base 1 "is_whole" spWhole := by
  obtain ⟨fd, F⟩ := T.f_is_whole
  refine cal_of T.g_is_whole F sc_is_whole (fun vs H Q E h => ?_) (fun _ _ _ _ _ _ us hl => match us, hl with | [_], _ => rfl) (fun cdv A outer s H vs Q E hr h => ?_)
  · obtain ⟨v, rfl, _⟩ := h
    rfl
  · obtain ⟨v, rfl, h⟩ := h
    refine ⟨_, pss_one (ps_ret (pe_and
      (pe_callB call_isi (by rfl) T.z_isinstance (by decide +kernel) (pa_cons (pv 0) (pa_cons (pe_bltn (v := .ty "int") (by rfl) T.z_int (by decide +kernel) rfl) pa_nil)))
      (pe_one (pe_not (pe_callB call_isi (by rfl) T.z_isinstance (by decide +kernel) (pa_cons (pv 0) (pa_cons (pe_bltn (v := .ty "bool") (by rfl) T.z_bool (by decide +kernel) rfl) pa_nil))))))), ?_⟩
    rcases h with ⟨i, rfl, q⟩ | ⟨b, rfl, q⟩
    · refine ⟨_, rfl, _, _, _, _, true, rfl, .ty _, .base (.int i), kit_ty (by decide +kernel), _, rfl, ?_⟩
      refine iteT ?_
      refine ⟨_, rfl, _, _, _, _, false, rfl, .ty _, .base (.int i), kit_ty (by decide +kernel), _, rfl, ?_⟩
      exact q
    · refine ⟨_, rfl, _, _, _, _, true, rfl, .ty _, .base (.bl b), kit_ty (by decide +kernel), _, rfl, ?_⟩
      refine iteT ?_
      refine ⟨_, rfl, _, _, _, _, true, rfl, .ty _, .base (.bl b), kit_ty (by decide +kernel), _, rfl, ?_⟩
      exact q
end
end K61

set_option Elab.async false
set_option maxRecDepth 100000
set_option maxHeartbeats 4000000
namespace K61
open PySem PySem.Spec PyProof.Rows L2
section
variable {P : Program} {w : World} {K : PySem.W.Frag} {mg : Str → Option Value} {base : Heap}
/-- an int within bounds; a bool never is -/
def spWithin : Sp := fun vs H Q _ => ∃ (v : V) (lo hi : Int), vs = [v, .int lo, .int hi] ∧ ((∃ i, v = .int i ∧ Q (.bl (decide (lo ≤ i) && decide (i ≤ hi))) H) ∨ ∃ b, v = .bl b ∧ Q (.bl false) H)
theorem sc_is_within : FnScope ["value", "least", "most"] ["value", "least", "most"] (defScope (top 13)) := ⟨rfl, rfl, rfl, by decide +kernel, rfl, by decide +kernel, by decide +kernel⟩
theorem ok_is_within (T : Txt K mg) (c_is_whole : Cal P w K mg base 1 "is_whole" spWhole) : Cal P w K mg base (2) "is_within" (spWithin) := by
  obtain ⟨fd, F⟩ := T.f_is_within
  refine cal_of T.g_is_within F sc_is_within (fun vs H Q E h => by first | (obtain ⟨_, rfl, _⟩ := h; rfl) | (obtain ⟨_, _, rfl, _⟩ := h; rfl) | (obtain ⟨_, _, _, rfl, _⟩ := h; rfl) | (obtain ⟨_, _, _, _, rfl, _⟩ := h; rfl) | (obtain ⟨_, _, _, _, _, rfl, _⟩ := h; rfl) | (obtain ⟨_, _, _, _, _, _, rfl, _⟩ := h; rfl) | (obtain ⟨_, _, _, _, _, _, _, rfl, _⟩ := h; rfl) | (obtain ⟨_, _, _, _, _, _, _, _, rfl, _⟩ := h; rfl)) (fun _ _ _ _ _ _ us hl => match us, hl with | [_, _, _], _ => rfl) (fun cdv A outer s H vs Q E hr h => ?_)
  obtain ⟨v, lo, hi, rfl, h⟩ := h
  refine ⟨_, (pss_one (ps_ret (pe_and (pe_cal c_is_whole (hr.mono (by decide)) (pa_cons (pv 0) pa_nil)) (pe_one (pe_chain op_le op_le (pv 1) (pv 0) (pv 2)))))), ?_⟩
  rcases h with ⟨i, rfl, q⟩ | ⟨b, rfl, q⟩
  · refine ⟨_, rfl, _, rfl, .inl ⟨i, rfl, _, rfl, ?_⟩⟩
    refine iteT ?_
    refine ⟨_, rfl, _, rfl, _, _, rfl, rfl, _, rfl, ?_⟩
    by_cases hl : lo ≤ i
    · rw [decide_eq_true hl] at q ⊢
      refine iteT ?_
      refine ⟨_, rfl, _, _, rfl, rfl, ?_⟩
      exact q
    · rw [decide_eq_false hl] at q ⊢
      exact iteF q
  · refine ⟨_, rfl, _, rfl, .inr ⟨b, rfl, _, rfl, ?_⟩⟩
    exact iteF q
def spReqWithin : Sp := fun vs H Q _ => ∃ (i lo hi : Int), vs = [.int i, .int lo, .int hi] ∧ lo ≤ i ∧ i ≤ hi ∧ Q .non H
theorem sc_require_within : FnScope ["value", "least", "most"] ["value", "least", "most"] (defScope (top 14)) := ⟨rfl, rfl, rfl, by decide +kernel, rfl, by decide +kernel, by decide +kernel⟩
theorem ok_require_within (T : Txt K mg) (c_is_within : Cal P w K mg base 2 "is_within" spWithin) : Cal P w K mg base (3) "require_within" (spReqWithin) := by
  obtain ⟨fd, F⟩ := T.f_require_within
  refine cal_of T.g_require_within F sc_require_within (fun vs H Q E h => by first | (obtain ⟨_, rfl, _⟩ := h; rfl) | (obtain ⟨_, _, rfl, _⟩ := h; rfl) | (obtain ⟨_, _, _, rfl, _⟩ := h; rfl) | (obtain ⟨_, _, _, _, rfl, _⟩ := h; rfl) | (obtain ⟨_, _, _, _, _, rfl, _⟩ := h; rfl) | (obtain ⟨_, _, _, _, _, _, rfl, _⟩ := h; rfl) | (obtain ⟨_, _, _, _, _, _, _, rfl, _⟩ := h; rfl) | (obtain ⟨_, _, _, _, _, _, _, _, rfl, _⟩ := h; rfl)) (fun _ _ _ _ _ _ us hl => match us, hl with | [_, _, _], _ => rfl) (fun cdv A outer s H vs Q E hr h => ?_)
  obtain ⟨i, lo, hi, rfl, h1, h2, q⟩ := h
  refine ⟨_, (pss_one (ps_if (pt_not (pt_val (pe_cal c_is_within (hr.mono (by decide)) (pa_cons (pv 0) (pa_cons (pv 1) (pa_cons (pv 2) pa_nil)))))) (pss_one (ps_never)) pss_nil)), ?_⟩
  refine ⟨_, rfl, _, rfl, _, rfl, _, lo, hi, rfl, .inl ⟨i, rfl, _, rfl, ?_⟩⟩
  rw [decide_eq_true h1, decide_eq_true h2]
  exact iteF q
def spReqSign : Sp := fun vs H Q _ => ∃ (n i : Nat), vs = [vn n, vn i] ∧ i < n ∧ Q .non H
theorem sc_require_sign : FnScope ["order", "value"] ["order", "value"] (defScope (top 26)) := ⟨rfl, rfl, rfl, by decide +kernel, rfl, by decide +kernel, by decide +kernel⟩
theorem ok_require_sign (T : Txt K mg) (c_require_within : Cal P w K mg base 3 "require_within" spReqWithin) : Cal P w K mg base (4) "require_sign" (spReqSign) := by
  obtain ⟨fd, F⟩ := T.f_require_sign
  refine cal_of T.g_require_sign F sc_require_sign (fun vs H Q E h => by first | (obtain ⟨_, rfl, _⟩ := h; rfl) | (obtain ⟨_, _, rfl, _⟩ := h; rfl) | (obtain ⟨_, _, _, rfl, _⟩ := h; rfl) | (obtain ⟨_, _, _, _, rfl, _⟩ := h; rfl) | (obtain ⟨_, _, _, _, _, rfl, _⟩ := h; rfl) | (obtain ⟨_, _, _, _, _, _, rfl, _⟩ := h; rfl) | (obtain ⟨_, _, _, _, _, _, _, rfl, _⟩ := h; rfl) | (obtain ⟨_, _, _, _, _, _, _, _, rfl, _⟩ := h; rfl)) (fun _ _ _ _ _ _ us hl => match us, hl with | [_, _], _ => rfl) (fun cdv A outer s H vs Q E hr h => ?_)
  obtain ⟨n, i, rfl, h1, q⟩ := h
  refine ⟨_, (pss_one (ps_expr (pe_cal c_require_within (hr.mono (by decide)) (pa_cons (pv 1) (pa_cons (pe_int) (pa_cons (pe_op op_sub (pv 0) (pe_int)) pa_nil)))))), ?_⟩
  refine ⟨_, rfl, _, rfl, _, _, rfl, rfl, _, _, _, rfl, by omega, by omega, ?_⟩
  exact q
theorem sc_require_name : FnScope ["order", "value"] ["order", "value"] (defScope (top 51)) := ⟨rfl, rfl, rfl, by decide +kernel, rfl, by decide +kernel, by decide +kernel⟩
theorem ok_require_name (T : Txt K mg) (c_require_sign : Cal P w K mg base 4 "require_sign" spReqSign) : Cal P w K mg base (5) "require_name" (spReqSign) := by
  obtain ⟨fd, F⟩ := T.f_require_name
  refine cal_of T.g_require_name F sc_require_name (fun vs H Q E h => by first | (obtain ⟨_, rfl, _⟩ := h; rfl) | (obtain ⟨_, _, rfl, _⟩ := h; rfl) | (obtain ⟨_, _, _, rfl, _⟩ := h; rfl) | (obtain ⟨_, _, _, _, rfl, _⟩ := h; rfl) | (obtain ⟨_, _, _, _, _, rfl, _⟩ := h; rfl) | (obtain ⟨_, _, _, _, _, _, rfl, _⟩ := h; rfl) | (obtain ⟨_, _, _, _, _, _, _, rfl, _⟩ := h; rfl) | (obtain ⟨_, _, _, _, _, _, _, _, rfl, _⟩ := h; rfl)) (fun _ _ _ _ _ _ us hl => match us, hl with | [_, _], _ => rfl) (fun cdv A outer s H vs Q E hr h => ?_)
  obtain ⟨n, i, rfl, h1, q⟩ := h
  refine ⟨_, (pss_one (ps_expr (pe_cal c_require_sign (hr.mono (by decide)) (pa_cons (pv 0) (pa_cons (pv 1) pa_nil))))), ?_⟩
  refine ⟨_, rfl, _, rfl, n, i, rfl, h1, ?_⟩
  exact q
end
end K61

set_option Elab.async false
set_option maxRecDepth 100000
set_option maxHeartbeats 4000000
namespace K61
open PySem PySem.Spec PyProof.Rows L2
section
variable {P : Program} {w : World} {K : PySem.W.Frag} {mg : Str → Option Value} {base : Heap}
/-- vs are the signs 0 .. n-1 in some order -/
def IsRen (n : Nat) (vs : List V) : Prop := ∃ l : List Nat, vs = l.map vn ∧ l.Perm (List.range n)
/-- an item of a row that is asked: a whole number or a truth value -/
def Itm (v : V) : Prop := (∃ i : Int, v = .int i) ∨ ∃ b, v = .bl b
def inB (n : Nat) : V → Bool
  | .int i => decide ((0 : Int) ≤ i) && decide (i ≤ (n : Int) - 1)
  | _ => false
/-- the kinds of things that are asked: not a tuple, or a tuple of items -/
inductive Ask (K : PySem.W.Frag) (H : Hp) : V → List V → Prop where
  | tup {a : Addr} {xs : List V} : H a = some (.tup xs) → (∀ v ∈ xs, Itm v) → xs.length ≤ 63 → Ask K H (.ref a) xs
  | lst {a : Addr} {xs : List V} : H a = some (.lst xs) → Ask K H (.ref a) [.non]
  | non : Ask K H .non [.non]
  | int (i : Int) : Ask K H (.int i) [.non]
/-- value is a renaming of n signs -/
def spRen (K : PySem.W.Frag) : Sp := fun vs H Q _ => ∃ (n : Nat) (v : V) (xs : List V), vs = [vn n, v] ∧ n ≤ 24 ∧ Ask K H v xs ∧ ∀ (b : Bool) H', (b = true ↔ IsRen n xs) → Same H H' → Q (.bl b) H'
theorem no_ren {n : Nat} : ¬ IsRen n [V.non] := fun ⟨l, e, _⟩ => by
  cases l with
  | nil => simp at e
  | cons a l => simp at e
theorem perm_cast {l m : List Nat} (h : (l.map fun (i : Nat) => (i : Int)).Perm (m.map fun (i : Nat) => (i : Int))) : l.Perm m := by
  have := h.map Int.toNat
  simpa [List.map_map, Function.comp_def] using this
theorem sc_is_renaming_of : FnScope ["order", "value", "sign"] ["order", "value"] (defScope (top 15)) := ⟨rfl, rfl, rfl, by decide +kernel, rfl, by decide +kernel, by decide +kernel⟩
theorem ok_is_renaming_of (T : Txt K mg) (c_is_within : Cal P w K mg base 2 "is_within" spWithin) : Cal P w K mg base (4) "is_renaming_of" (spRen K) := by
  obtain ⟨fd, F⟩ := T.f_is_renaming_of
  refine cal_of T.g_is_renaming_of F sc_is_renaming_of (fun vs H Q E h => by first | (obtain ⟨_, rfl, _⟩ := h; rfl) | (obtain ⟨_, _, rfl, _⟩ := h; rfl) | (obtain ⟨_, _, _, rfl, _⟩ := h; rfl) | (obtain ⟨_, _, _, _, rfl, _⟩ := h; rfl) | (obtain ⟨_, _, _, _, _, rfl, _⟩ := h; rfl) | (obtain ⟨_, _, _, _, _, _, rfl, _⟩ := h; rfl) | (obtain ⟨_, _, _, _, _, _, _, rfl, _⟩ := h; rfl) | (obtain ⟨_, _, _, _, _, _, _, _, rfl, _⟩ := h; rfl)) (fun _ _ _ _ _ _ us hl => match us, hl with | [_, _], _ => rfl) (fun cdv A outer s H vs Q E hr h => ?_)
  obtain ⟨n, v, xs, rfl, hn, ask, q⟩ := h
  refine ⟨_, (pss_cons (ps_if (PW.pt (pw_or (pt_not (pt_val (pe_callB (isiK (K := K) rfl) (by rfl) T.z_isinstance (by decide +kernel) (pa_cons (pv 1) (pa_cons (pe_bltn (v := .ty "tuple") (by rfl) T.z_tuple (by decide +kernel) rfl) pa_nil))))) (pw_or1 (pt_cmpR op_ne (pe_callB (lenK (K := K) rfl) (by rfl) T.z_len (by decide +kernel) (pa_cons (pv 1) pa_nil)) (pv 0) (nomark _))))) (pss_one (ps_ret (pe_bl))) pss_nil)
      (pss_cons (ps_if (pt_not (pt_val (pe_callB (cr_all rfl) (by rfl) T.z_all (by decide +kernel) (pa_cons (pe_lc (own := [("sign", 2)]) rfl sc_is_renaming_of.nd (piT (K := K) rfl (pv 1)) (blkOk_by (own := [("sign", 2)]) (N := ["order", "value", "sign"]) (sc := defScope (top 15)) (by first | decide +kernel | kernel_rfl | rfl)) (fun _ _ _ _ _ => (pg_name (i := 2) sc_is_renaming_of.nd rfl (Or.inl rfl))) (fun _ _ _ _ _ => pts_nil) (fun _ _ _ _ _ => (pe_cal c_is_within (hr.mono (by decide)) (pa_cons (pv 2) (pa_cons (pe_int) (pa_cons (pe_op op_sub (pv 0) (pe_int)) pa_nil)))))) pa_nil)))) (pss_one (ps_ret (pe_bl))) pss_nil)
      (pss_one (ps_ret (pe_cmpR (op_eqD hr.units) (pe_callB cr_sortedT (by rfl) T.z_sorted (by decide +kernel) (pa_cons (pv 1) pa_nil)) (pe_listRg rfl (by rfl) T.z_list (prg_1 (by rfl) T.z_range (pv 0))) (nomark _)))))), ?_⟩
  cases ask with
  | lst ha =>
    refine ⟨_, rfl, _, _, _, _, false, rfl, .ty _, .base (.lst ha), kit_ty (by decide +kernel), _, rfl, ?_⟩
    exact iteT (iteT (q false H (by simp; exact fun z => no_ren z) sRefl))
  | non =>
    refine ⟨_, rfl, _, _, _, _, false, rfl, .ty _, .base .non, kit_ty (by decide +kernel), _, rfl, ?_⟩
    exact iteT (iteT (q false H (by simp; exact fun z => no_ren z) sRefl))
  | int i =>
    refine ⟨_, rfl, _, _, _, _, false, rfl, .ty _, .base (.int i), kit_ty (by decide +kernel), _, rfl, ?_⟩
    exact iteT (iteT (q false H (by simp; exact fun z => no_ren z) sRefl))
  | @tup a xs ha hi hz =>
    refine ⟨_, rfl, _, _, _, _, true, rfl, .ty _, .base (.tup ha), kit_ty (by decide +kernel), _, rfl, ?_⟩
    refine iteF ?_
    refine ⟨_, rfl, a, xs, rfl, .inr (SqT.of ha), _, rfl, rfl, _, rfl, ?_⟩
    by_cases hl : xs.length = n
    case neg =>
      rw [decide_eq_false (by simp; omega)]
      refine iteT (q false H ?_ sRefl)
      simp
      rintro ⟨l, e, p⟩
      exact hl (by rw [e, List.length_map, p.length_eq, List.length_range])
    rw [decide_eq_true (by simp; omega)]
    refine iteF ?_
    -- the items
    refine ⟨_, rfl, a, rfl, ⟨xs, SqT.of ha⟩, fun D hD => lc_gen walk_tup (by omega) hD (fun H' sm => SqT.of (sm _ _ ha)) (fun _ k y => ∃ v, xs[k]? = some v ∧ y = .bl (inB n v)) (fun _ _ _ _ _ h => h) (fun k x H0 H' acc Kf hk sm hacc hy hK => ?_) (fun ys H' sm hy ly hr => ?_)⟩
    · obtain ⟨rfl, hx⟩ := hy
      refine ⟨rfl, ?_⟩
      refine ⟨_, rfl, _, rfl, _, _, rfl, rfl, x, _, _, rfl, ?_⟩
      rcases hi x (List.mem_of_getElem? hx) with ⟨i, rfl⟩ | ⟨b, rfl⟩
      · exact .inl ⟨i, rfl, hK _ _ sRefl ⟨_, hx, rfl⟩⟩
      · exact .inr ⟨b, rfl, hK _ _ sRefl ⟨_, hx, rfl⟩⟩
    · have ey : ys = (xs.map (inB n)).map V.bl := by
        refine List.ext_getElem? fun k => ?_
        cases h : ys[k]? with
        | none =>
          rw [List.getElem?_eq_none_iff] at h
          rw [eq_comm, List.getElem?_eq_none_iff, List.length_map, List.length_map]
          omega
        | some y =>
          obtain ⟨v, h1, rfl⟩ := hr k y h
          rw [List.getElem?_map, List.getElem?_map, h1]
          rfl
      refine ⟨D, xs.map (inB n), rfl, SqL.of (by rw [hy, ey]), _, rfl, ?_⟩
      cases hb : (xs.map (inB n)).all id with
      | false =>
        refine iteT (q false H' ?_ sm)
        simp
        rintro ⟨l, rfl, p⟩
        rw [List.all_eq_false] at hb
        obtain ⟨b, hb, hb2⟩ := hb
        obtain ⟨v, hv, rfl⟩ := List.mem_map.mp hb
        obtain ⟨i, hi2, rfl⟩ := List.mem_map.mp hv
        have := List.mem_range.mp ((p.mem_iff).mp hi2)
        apply hb2
        show (decide ((0 : Int) ≤ (i : Int)) && decide ((i : Int) ≤ (n : Int) - 1)) = true
        rw [decide_eq_true (by omega), decide_eq_true (by omega)]
        rfl
      | true =>
        refine iteF ?_
        have hall : ∃ l : List Nat, xs = l.map vn := by
          have hb' : ∀ v ∈ xs, inB n v = true := fun v hv => (List.all_eq_true.mp hb) _ (List.mem_map_of_mem hv)
          clear hb ey hr ly hl q hz hi ha hy
          induction xs with
          | nil => exact ⟨[], rfl⟩
          | cons v r ih =>
            obtain ⟨l, rfl⟩ := ih fun u hu => hb' u (List.mem_cons_of_mem _ hu)
            have := hb' v List.mem_cons_self
            cases v with
            | int i =>
              have z : (decide ((0 : Int) ≤ i) && decide (i ≤ (n : Int) - 1)) = true := this
              rw [Bool.and_eq_true, decide_eq_true_eq] at z
              refine ⟨i.toNat :: l, ?_⟩
              show V.int i :: _ = V.int (i.toNat : Int) :: _
              rw [Int.toNat_of_nonneg z.1]
            | _ => cases this
        obtain ⟨l, rfl⟩ := hall
        have hm : l.map vn = (l.map fun (i : Nat) => (i : Int)).map V.int := by rw [List.map_map]; rfl
        refine ⟨_, rfl, a, l.map fun (i : Nat) => (i : Int), rfl, SqT.of (by rw [← hm]; exact sm _ _ ha), by rw [List.length_map] at hz ⊢; omega, fun ns' p hp hs hn' => ?_⟩
        refine ⟨_, rfl, _, rfl, RgOk.n (by omega), fun p2 hn2 => ?_⟩
        have hpp : p ≠ p2 := fun z => by rw [z, upd_same] at hn2; cases hn2
        refine ⟨_, _, .lst (SqL.of (by rw [upd_ne hpp]; exact upd_same)) (dpAllI ns'), .lst (SqL.of (by rw [upd_same, rgN])) (dpAllN _), PySem.W.ke_shaped_ints _, by rw [show ((List.range n).map fun (i : Nat) => PyData.int i) = ((List.range n).map fun (i : Nat) => (i : Int)).map PyData.int by rw [List.map_map]; rfl]; exact PySem.W.ke_shaped_ints _, ?_⟩
        refine q _ _ ?_ ?_
        · show PyData.eqvAll _ _ = true ↔ _
          rw [show ((List.range n).map fun (i : Nat) => PyData.int i) = ((List.range n).map fun (i : Nat) => (i : Int)).map PyData.int by rw [List.map_map]; rfl, eqvAllI, decide_eq_true_iff]
          constructor
          · rintro rfl
            exact ⟨l, rfl, perm_cast hp.symm⟩
          · rintro ⟨l', e, p'⟩
            have : l = l' := vns_inj e
            subst this
            exact sorted_range (hp.trans (p'.map _)) hs
        · exact fun b u e => by rw [upd_ne (ne_of_none (by rw [upd_ne (ne_of_none (sm _ _ e) hn')]; exact sm _ _ e) hn2), upd_ne (ne_of_none (sm _ _ e) hn')]; exact sm _ _ e
end
end K61

set_option Elab.async false
set_option maxRecDepth 100000
set_option maxHeartbeats 4000000
namespace K61
open PySem PySem.Spec PyProof.Rows L2
section
variable {P : Program} {w : World} {K : PySem.W.Frag} {mg : Str → Option Value} {base : Heap}
/-- a renaming of its own length -/
def spIsRen : Sp := fun vs H Q _ => ∃ (a : Addr) (l : List Nat), vs = [.ref a] ∧ TupN H a l ∧ 1 ≤ l.length ∧ l.length ≤ 24 ∧ l.Perm (List.range l.length) ∧ ∀ H', Same H H' → Q (.bl true) H'
theorem itm_vn (l : List Nat) : ∀ v ∈ l.map vn, Itm v := fun v h => by
  obtain ⟨i, _, rfl⟩ := List.mem_map.mp h
  exact .inl ⟨_, rfl⟩
theorem sc_is_renaming : FnScope ["value"] ["value"] (defScope (top 16)) := ⟨rfl, rfl, rfl, by decide +kernel, rfl, by decide +kernel, by decide +kernel⟩
theorem ok_is_renaming (T : Txt K mg) (c_is_renaming_of : Cal P w K mg base 4 "is_renaming_of" (spRen K)) : Cal P w K mg base (5) "is_renaming" (spIsRen) := by
  obtain ⟨fd, F⟩ := T.f_is_renaming
  obtain ⟨_, hMAX_ORDER⟩ := T.i_MAX_ORDER
  refine cal_of T.g_is_renaming F sc_is_renaming (fun vs H Q E h => by first | (obtain ⟨_, rfl, _⟩ := h; rfl) | (obtain ⟨_, _, rfl, _⟩ := h; rfl) | (obtain ⟨_, _, _, rfl, _⟩ := h; rfl) | (obtain ⟨_, _, _, _, rfl, _⟩ := h; rfl) | (obtain ⟨_, _, _, _, _, rfl, _⟩ := h; rfl) | (obtain ⟨_, _, _, _, _, _, rfl, _⟩ := h; rfl) | (obtain ⟨_, _, _, _, _, _, _, rfl, _⟩ := h; rfl) | (obtain ⟨_, _, _, _, _, _, _, _, rfl, _⟩ := h; rfl)) (fun _ _ _ _ _ _ us hl => match us, hl with | [_], _ => rfl) (fun cdv A outer s H vs Q E hr h => ?_)
  obtain ⟨a, l, rfl, ha, h1, h24, hp, q⟩ := h
  refine ⟨_, (pss_one (ps_ret (pe_and (pe_callB (isiK (K := K) rfl) (by rfl) T.z_isinstance (by decide +kernel) (pa_cons (pv 0) (pa_cons (pe_bltn (v := .ty "tuple") (by rfl) T.z_tuple (by decide +kernel) rfl) pa_nil))) (pe_and (pe_chain op_le op_le (pe_int) (pe_callB (lenK (K := K) rfl) (by rfl) T.z_len (by decide +kernel) (pa_cons (pv 0) pa_nil)) (pe_glob (v := .int 24) (by rfl) hMAX_ORDER ⟨_, rfl⟩)) (pe_one (pe_cal c_is_renaming_of (hr.mono (by decide)) (pa_cons (pe_callB (lenK (K := K) rfl) (by rfl) T.z_len (by decide +kernel) (pa_cons (pv 0) pa_nil)) (pa_cons (pv 0) pa_nil)))))))), ?_⟩
  refine ⟨_, rfl, _, _, _, _, true, rfl, .ty _, .base (.tup ha), kit_ty (by decide +kernel), _, rfl, iteT ?_⟩
  refine ⟨_, rfl, a, _, rfl, .inr (SqT.of ha), _, _, rfl, rfl, _, rfl, ?_⟩
  rw [decide_eq_true (by rw [List.length_map]; omega)]
  refine iteT ⟨_, _, rfl, rfl, _, rfl, ?_⟩
  rw [decide_eq_true (by rw [List.length_map]; omega)]
  refine iteT ⟨_, rfl, a, _, rfl, .inr (SqT.of ha), _, rfl, l.length, _, _, by rw [List.length_map]; rfl, h24, .tup ha (itm_vn l) (by rw [List.length_map]; omega), fun b H' hb sm => ?_⟩
  rw [hb.mpr ⟨l, rfl, hp⟩]
  exact q H' sm
/-- .. turned back: what it holds is not asked -/
def spTurned : Sp := fun vs H Q _ => ∃ (a : Addr) (l : List Nat), vs = [.ref a] ∧ TupN H a l ∧ l.length ≤ 24 ∧ (∀ x ∈ l, x < l.length) ∧ ∀ p H', Same H H' → (∃ ys, H' p = some (.tup ys)) → Q (.ref p) H'
theorem sc_turned_back : FnScope ["one", "found", "sign", "image"] ["one"] (defScope (top 17)) := ⟨rfl, rfl, rfl, by decide +kernel, rfl, by decide +kernel, by decide +kernel⟩
theorem ok_turned_back (T : Txt K mg)  : Cal P w K mg base (5) "turned_back" (spTurned) := by
  obtain ⟨fd, F⟩ := T.f_turned_back
  refine cal_of T.g_turned_back F sc_turned_back (fun vs H Q E h => by first | (obtain ⟨_, rfl, _⟩ := h; rfl) | (obtain ⟨_, _, rfl, _⟩ := h; rfl) | (obtain ⟨_, _, _, rfl, _⟩ := h; rfl) | (obtain ⟨_, _, _, _, rfl, _⟩ := h; rfl) | (obtain ⟨_, _, _, _, _, rfl, _⟩ := h; rfl) | (obtain ⟨_, _, _, _, _, _, rfl, _⟩ := h; rfl) | (obtain ⟨_, _, _, _, _, _, _, rfl, _⟩ := h; rfl) | (obtain ⟨_, _, _, _, _, _, _, _, rfl, _⟩ := h; rfl)) (fun _ _ _ _ _ _ us hl => match us, hl with | [_], _ => rfl) (fun cdv A outer s H vs Q E hr h => ?_)
  obtain ⟨a, l, rfl, ha, h24, hl, q⟩ := h
  refine ⟨_, (pss_cons (ps_set (i := 1) sc_turned_back.nd rfl (Or.inl rfl) (pe_op op_rep (pe_lst (pa_cons (pe_int) pa_nil)) (pe_callB (lenK (K := K) rfl) (by rfl) T.z_len (by decide +kernel) (pa_cons (pv 0) pa_nil))))
      (pss_cons (ps_for PassesOwn.never rfl (pi_enumT (by rfl) T.z_enumerate (pa_cons (pv 0) pa_nil)) (pgTup (K := K) (n := 2) rfl rfl (pgs_cons (pg_name (i := 2) sc_turned_back.nd rfl (Or.inl rfl)) (pgs_cons (pg_name (i := 3) sc_turned_back.nd rfl (Or.inl rfl)) pgs_nil))) (pss_one (ps_asg (pv 2) (pg_sub (pv 1) (pv 3) set_list))))
      (pss_one (ps_ret (pe_callTy (tupOfK (K := K) rfl) (by rfl) T.z_tuple (by decide +kernel) (pa_cons (pv 1) pa_nil)))))), ?_⟩
  refine ⟨(by decide : 1 ≤ sizeLine), fun D hD => ⟨_, rfl, a, _, rfl, .inr (SqT.of (by rw [upd_ne (ne_of_none ha hD)]; exact ha)), D, _, _, rfl, rfl, upd_same, by rw [List.length_map]; omega, by rw [List.length_map]; omega, ?_, fun F hF => ?_⟩⟩
  · rw [List.length_map]
    have : sizeLine = 16777216 := sizeLine_eq
    show 1 * (l.length : Int).toNat ≤ sizeLine
    omega
  have hDF : D ≠ F := fun z => by rw [← z, upd_same] at hF; cases hF
  have hF' : H F = none := by rw [upd_ne hDF.symm] at hF; exact hF
  have smF : ∀ o, Same H (upd (upd H D (.lst [V.int 0])) F o) := fun o b u e => by rw [upd_ne (ne_of_none e hF'), upd_ne (ne_of_none e hD)]; exact e
  refine ⟨_, rfl, a, _, rfl, SqT.of (smF _ _ _ ha), ?_⟩
  refine for_it walk_enumT (fun i σ H' => (∃ x y, σ = [some (.ref a), some (.ref F), x, y]) ∧ Same H H' ∧ ∃ ys, H' F = some (.lst ys) ∧ ys.length = l.length) ⟨⟨_, _, rfl⟩, smF _, _, upd_same, ?_⟩ (fun i σ H' _ p => SqT.of (p.2.1 _ _ ha)) (fun i x σ H1 H2 hi p y => ?_) (fun σ H' p => ?_)
  · rw [List.length_map, List.length_flatten]
    simp
  · obtain ⟨⟨_, _, rfl⟩, sm, ys, hys, ly⟩ := p
    obtain ⟨T, x1, x2, rfl, hT, rfl, e1, e2⟩ := y
    cases e1
    rw [List.length_map] at hi
    have e3 : (l.map vn)[i]? = some x2 := e2
    rw [List.getElem?_map, List.getElem?_eq_getElem hi] at e3
    cases e3
    have hx := hl _ (List.getElem_mem hi)
    refine ⟨T, _, rfl, SqT.of upd_same, rfl, _, _, rfl, _, _, rfl, rfl, ?_⟩
    refine ⟨_, rfl, _, rfl, _, rfl, F, ys, _, (l[i]), rfl, rfl, by rw [upd_ne (ne_of_none hys hT)]; exact hys, ?_, ?_⟩
    · unfold ixN
      rw [if_pos (by omega), if_pos (by omega)]
      rfl
    · refine ⟨⟨_, _, rfl⟩, fun b u e => ?_, _, upd_same, by rw [List.length_set]; exact ly⟩
      rw [upd_ne (ne_of_none e hF'), upd_ne (ne_of_none (sm _ _ e) hT)]
      exact sm _ _ e
  · obtain ⟨⟨_, _, rfl⟩, sm, ys, hys, ly⟩ := p
    refine ⟨_, rfl, F, ys, rfl, .inl ⟨SqL.of hys, fun p hp => q p _ (fun b u e => ?_) ⟨_, upd_same⟩⟩⟩
    rw [upd_ne (ne_of_none (sm _ _ e) hp)]
    exact sm _ _ e
/-- the round from s -/
def spRound : Sp := fun vs H Q _ => ∃ (a : Addr) (l : List Nat) (s k : Nat), vs = [.ref a, vn s] ∧ TupN H a l ∧ (∀ x ∈ l, x < l.length) ∧ s < l.length ∧ l.length ≤ 24 ∧ cycGo l s 64 s = some k ∧ ∀ p H' ys, Same H H' → H' p = some (.tup ys) → ys.length = k → Q (.ref p) H'
theorem sc_round_from : FnScope ["one", "sign", "found"] ["one", "sign"] (defScope (top 18)) := ⟨rfl, rfl, rfl, by decide +kernel, rfl, by decide +kernel, by decide +kernel⟩
theorem ok_round_from (T : Txt K mg)  : Cal P w K mg base (6) "round_from" (spRound) := by
  obtain ⟨fd, F⟩ := T.f_round_from
  refine cal_of T.g_round_from F sc_round_from (fun vs H Q E h => by first | (obtain ⟨_, rfl, _⟩ := h; rfl) | (obtain ⟨_, _, rfl, _⟩ := h; rfl) | (obtain ⟨_, _, _, rfl, _⟩ := h; rfl) | (obtain ⟨_, _, _, _, rfl, _⟩ := h; rfl) | (obtain ⟨_, _, _, _, _, rfl, _⟩ := h; rfl) | (obtain ⟨_, _, _, _, _, _, rfl, _⟩ := h; rfl) | (obtain ⟨_, _, _, _, _, _, _, rfl, _⟩ := h; rfl) | (obtain ⟨_, _, _, _, _, _, _, _, rfl, _⟩ := h; rfl)) (fun _ _ _ _ _ _ us hl => match us, hl with | [_, _], _ => rfl) (fun cdv A outer s H vs Q E hr h => ?_)
  obtain ⟨a, l, s0, k, rfl, ha, hl, hs, h24, hk, q⟩ := h
  refine ⟨_, (pss_cons (ps_set (i := 2) sc_round_from.nd rfl (Or.inl rfl) (pe_lst (pa_cons (pv 1) pa_nil)))
      (pss_cons (ps_while PassesOwn.never (pt_cmpR op_ne (pe_ix (ixT (K := K) rfl) (pv 0) (pe_ix (ixL (K := K) rfl) (pv 2) (pe_un un_neg (pe_int)) (fun _ _ => rfl)) (fun _ _ => rfl)) (pv 1) (nomark _)) (pss_one (ps_expr (pe_bm PySem.F.plainAttrs_list PySem.F.slot_list_append PySem.F.type_list_append mt_append (pv 2) (pa_cons (pe_ix (ixT (K := K) rfl) (pv 0) (pe_ix (ixL (K := K) rfl) (pv 2) (pe_un un_neg (pe_int)) (fun _ _ => rfl)) (fun _ _ => rfl)) pa_nil)))))
      (pss_one (ps_ret (pe_callTy (tupOfK (K := K) rfl) (by rfl) T.z_tuple (by decide +kernel) (pa_cons (pv 2) pa_nil)))))), ?_⟩
  refine ⟨_, rfl, (by decide : 1 ≤ sizeLine), fun D hD => ?_⟩
  refine ⟨fun m σ H' => m ≤ 64 ∧ ∃ xs c r, σ = [some (.ref a), some (vn s0), some (.ref D)] ∧ Same H H' ∧ H' D = some (.lst (xs ++ [vn c])) ∧ c < l.length ∧ cycGo l s0 m c = some r ∧ xs.length + r = k ∧ xs.length ≤ 64 - m, ⟨64, Nat.le_refl _, [], s0, k, rfl, same_upd hD, upd_same, hs, hk, by simp, by simp⟩, fun m σ H' p => ?_⟩
  obtain ⟨hm, xs, c, r, rfl, sm, hD', hc, hr, hkr, hx⟩ := p
  have hz : sizeLine = 16777216 := sizeLine_eq
  cases m with
  | zero => cases hr
  | succ m =>
    refine ⟨_, rfl, _, rfl, _, rfl, D, _, _, vn c, rfl, rfl, SqL.of hD', atI_last _ _, a, _, _, vn (l.getD c 0), rfl, rfl, SqT.of (sm _ _ ha), atN hc, _, rfl, rfl, _, rfl, ?_⟩
    unfold cycGo at hr
    by_cases he : l.getD c 0 = s0
    · rw [if_pos he] at hr
      cases hr
      rw [decide_eq_true (by rw [he])]
      refine iteF ?_
      refine ⟨_, rfl, D, _, rfl, .inl ⟨SqL.of hD', fun p hp => q p _ _ (fun b u e => ?_) upd_same (by rw [List.length_append]; exact hkr)⟩⟩
      rw [upd_ne (ne_of_none (sm _ _ e) hp)]
      exact sm _ _ e
    · rw [if_neg he] at hr
      rw [decide_eq_false (fun z => he (vn_inj z))]
      refine iteT ?_
      obtain ⟨r', hr', rfl⟩ := Option.map_eq_some_iff.mp hr
      refine ⟨fun σ' H'' => m ≤ 64 ∧ ∃ xs c r, σ' = [some (.ref a), some (vn s0), some (.ref D)] ∧ Same H H'' ∧ H'' D = some (.lst (xs ++ [vn c])) ∧ c < l.length ∧ cycGo l s0 m c = some r ∧ xs.length + r = k ∧ xs.length ≤ 64 - m, fun σ' H'' p => ⟨m, Nat.lt_succ_self _, p⟩, ?_⟩
      refine ⟨_, rfl, tyL hD', _, rfl, _, rfl, _, rfl, D, _, _, vn c, rfl, rfl, SqL.of hD', atI_last _ _, a, _, _, vn (l.getD c 0), rfl, rfl, SqT.of (sm _ _ ha), atN hc, D, _, _, rfl, rfl, hD', by rw [List.length_append, List.length_singleton]; omega, ?_⟩
      refine ⟨by omega, xs ++ [vn c], l.getD c 0, r', rfl, Same.mut sm hD, upd_same, ?_, hr', by rw [List.length_append, List.length_singleton]; omega, by rw [List.length_append, List.length_singleton]; omega⟩
      rw [List.getD_eq_getElem?_getD, List.getElem?_eq_getElem hc]
      exact hl _ (List.getElem_mem hc)
/-- the columns of rows -/
theorem eachSq {K : PySem.W.Frag} {H : Hp} {ps : List Addr} {rs : Rows} {k : Nat} {y : V} (h : Each TupN H ps rs) (e : (ps.map V.ref)[k]? = some y) : ∃ q r, y = .ref q ∧ rs[k]? = some r ∧ TupN H q r ∧ r ∈ rs := by
  obtain ⟨q, r, e1, e2, e3⟩ := h.refs e
  exact ⟨q, r, e1, e2, e3, List.mem_of_getElem? e2⟩
def spTransp : Sp := fun vs H Q _ => ∃ (a : Addr) (rs : Rows), vs = [.ref a] ∧ TupR H a rs ∧ rs.length ≤ 24 ∧ (∀ r ∈ rs, r.length = rs.length) ∧ ∀ p H', Same H H' → TupR H' p (transp rs) → Q (.ref p) H'
theorem sc_transposed : FnScope ["rows", "row", "at"] ["rows"] (defScope (top 23)) := ⟨rfl, rfl, rfl, by decide +kernel, rfl, by decide +kernel, by decide +kernel⟩
theorem ok_transposed (T : Txt K mg)  : Cal P w K mg base (5) "transposed" (spTransp) := by
  obtain ⟨fd, F⟩ := T.f_transposed
  refine cal_of T.g_transposed F sc_transposed (fun vs H Q E h => by first | (obtain ⟨_, rfl, _⟩ := h; rfl) | (obtain ⟨_, _, rfl, _⟩ := h; rfl) | (obtain ⟨_, _, _, rfl, _⟩ := h; rfl) | (obtain ⟨_, _, _, _, rfl, _⟩ := h; rfl) | (obtain ⟨_, _, _, _, _, rfl, _⟩ := h; rfl) | (obtain ⟨_, _, _, _, _, _, rfl, _⟩ := h; rfl) | (obtain ⟨_, _, _, _, _, _, _, rfl, _⟩ := h; rfl) | (obtain ⟨_, _, _, _, _, _, _, _, rfl, _⟩ := h; rfl)) (fun _ _ _ _ _ _ us hl => match us, hl with | [_], _ => rfl) (fun cdv A outer s H vs Q E hr h => ?_)
  obtain ⟨a, rs, rfl, ⟨ps, ha, hE⟩, h24, hw, q⟩ := h
  have lp := hE.length
  refine ⟨_, (pss_one (ps_ret (pe_callTy (tupOfK (K := K) rfl) (by rfl) T.z_tuple (by decide +kernel) (pa_cons (pe_lc (own := [("at", 2)]) rfl sc_transposed.nd (pi_range1 (by rfl) T.z_range (pa_cons (pe_callB (lenK (K := K) rfl) (by rfl) T.z_len (by decide +kernel) (pa_cons (pv 0) pa_nil)) pa_nil)) (blkOk_by (own := [("at", 2)]) (N := ["rows", "row", "at"]) (sc := defScope (top 23)) (by first | decide +kernel | kernel_rfl | rfl)) (fun _ _ _ _ _ => (pg_name (i := 2) sc_transposed.nd rfl (Or.inr rfl) (Or.inl rfl))) (fun _ _ _ _ _ => pts_nil) (fun _ _ _ _ _ => (pe_callTy (tupOfK (K := K) rfl) (by rfl) T.z_tuple (by decide +kernel) (pa_cons (pe_lc (own := [("row", 1)]) rfl sc_transposed.nd (piT (K := K) rfl (pv 0)) (blkOk_by (own := [("row", 1)]) (N := ["rows", "row", "at"]) (by first | decide +kernel | kernel_rfl | rfl)) (fun _ _ _ _ _ => (pg_name (i := 1) sc_transposed.nd rfl (Or.inl rfl))) (fun _ _ _ _ _ => pts_nil) (fun _ _ _ _ _ => (pe_ix (ixT (K := K) rfl) (pv 1) (pv 2) (fun _ _ => rfl)))) pa_nil)))) pa_nil)))), ?_⟩
  refine ⟨_, rfl, a, _, rfl, .inr (SqT.of ha), _, rfl, by rw [List.length_map]; omega, by rw [List.length_map]; omega, fun D hD => ?_⟩
  refine lc_gen walk_range (by rw [List.length_map]; omega) hD (fun _ _ => trivial) (fun H' k y => ∃ p, y = .ref p ∧ p ≠ D ∧ TupN H' p (colOf rs k)) (fun H0 H' k y sx ⟨p, e, n, t⟩ => ⟨p, e, n, t.sx sx n⟩) (fun k x H0 H' acc Kf hk sm hacc hy hK => ?_) (fun ys H' sm hy ly hr' => ?_)
  · obtain ⟨rfl, rfl⟩ := hy
    rw [List.length_map, Int.toNat_natCast, lp] at hk
    refine ⟨rfl, ?_⟩
    have sm' : Each TupN H' ps rs := hE.mono fun a l t => t.mono sm
    refine ⟨_, rfl, a, rfl, ⟨_, SqT.of (sm _ _ ha)⟩, fun D2 hD2 => ?_⟩
    refine lc_gen walk_tup (by rw [List.length_map]; omega) hD2 (fun H2 s2 => SqT.of (s2 _ _ (sm _ _ ha))) (fun _ j y => ∃ r, rs[j]? = some r ∧ y = vn (r.getD k 0)) (fun _ _ _ _ _ h => h) (fun j x H2 H3 acc2 Kf2 hj sm2 hacc2 hy2 hK2 => ?_) (fun ys2 H2 sm2 hy2 ly2 hr2 => ?_)
    · obtain ⟨rfl, hx⟩ := hy2
      obtain ⟨q1, r, rfl, hr1, t1, mr⟩ := eachSq (K := K) sm' hx
      refine ⟨rfl, _, rfl, _, rfl, q1, _, _, _, rfl, rfl, SqT.of (sm2 _ _ t1), by rw [Int.zero_add]; exact atN (by rw [hw r mr]; exact hk), hK2 _ _ sRefl ⟨r, hr1, rfl⟩⟩
    · have e2 : ys2 = (colOf rs k).map vn := by
        unfold colOf
        rw [ints_of ys2 (fun j => ((rs.getD j []).getD k 0)) fun j y e => ?_]
        · rw [ly2, List.length_map, lp, map_range_get rs (fun r => r.getD k 0)]
          intro j r e
          rw [getD_of e]
        · obtain ⟨r, h1, rfl⟩ := hr2 j y e
          rw [getD_of (l := rs) h1]
      refine ⟨D2, ys2, rfl, .inl ⟨SqL.of hy2, fun p hp => hK _ _ (fun b u e => ?_) ⟨p, rfl, ?_, ?_⟩⟩⟩
      · rw [upd_ne (ne_of_none (sm2 _ _ e) hp)]
        exact sm2 _ _ e
      · intro z
        rw [z] at hp
        rw [sm2 _ _ hacc] at hp
        cases hp
      · show upd _ _ _ _ = _
        rw [upd_same, e2]
  · rw [List.length_map, Int.toNat_natCast, lp] at ly
    obtain ⟨qs, e, hQ⟩ := each_of (RR := TupN) ys (colOf rs) fun k y e => let ⟨p, h1, _, h2⟩ := hr' k y e; ⟨p, h1, h2⟩
    refine ⟨D, ys, rfl, .inl ⟨SqL.of hy, fun p hp => q p _ (fun b u e => ?_) ⟨qs, by rw [upd_same, e], ?_⟩⟩⟩
    · rw [upd_ne (ne_of_none (sm _ _ e) hp)]
      exact sm _ _ e
    · rw [ly] at hQ
      exact hQ.mono fun b l t => t.mono (same_upd hp)
/-- rows turned back: what they hold is not asked -/
def spTurnedR : Sp := fun vs H Q _ => ∃ (a : Addr) (rs : Rows), vs = [.ref a] ∧ TupR H a rs ∧ rs.length ≤ 24 ∧ (∀ r ∈ rs, r.Perm (List.range rs.length)) ∧ (∀ r ∈ transp rs, r.Perm (List.range rs.length)) ∧ ∀ p H', Same H H' → Q (.ref p) H'
theorem perm_lt {n : Nat} {r : List Nat} (h : r.Perm (List.range n)) : r.length = n ∧ ∀ x ∈ r, x < n := ⟨by rw [h.length_eq, List.length_range], fun x hx => List.mem_range.mp (h.mem_iff.mp hx)⟩
theorem sc_columns_of : FnScope ["rows", "row"] ["rows"] (defScope (top 24)) := ⟨rfl, rfl, rfl, by decide +kernel, rfl, by decide +kernel, by decide +kernel⟩
theorem ok_columns_of (T : Txt K mg) (c_turned_back : Cal P w K mg base 5 "turned_back" spTurned) : Cal P w K mg base (6) "columns_of" (spTurnedR) := by
  obtain ⟨fd, F⟩ := T.f_columns_of
  refine cal_of T.g_columns_of F sc_columns_of (fun vs H Q E h => by first | (obtain ⟨_, rfl, _⟩ := h; rfl) | (obtain ⟨_, _, rfl, _⟩ := h; rfl) | (obtain ⟨_, _, _, rfl, _⟩ := h; rfl) | (obtain ⟨_, _, _, _, rfl, _⟩ := h; rfl) | (obtain ⟨_, _, _, _, _, rfl, _⟩ := h; rfl) | (obtain ⟨_, _, _, _, _, _, rfl, _⟩ := h; rfl) | (obtain ⟨_, _, _, _, _, _, _, rfl, _⟩ := h; rfl) | (obtain ⟨_, _, _, _, _, _, _, _, rfl, _⟩ := h; rfl)) (fun _ _ _ _ _ _ us hl => match us, hl with | [_], _ => rfl) (fun cdv A outer s H vs Q E hr h => ?_)
  obtain ⟨a, rs, rfl, ⟨ps, ha, hE⟩, h24, hw, _, q⟩ := h
  have lp := hE.length
  refine ⟨_, (pss_one (ps_ret (pe_callTy (tupOfK (K := K) rfl) (by rfl) T.z_tuple (by decide +kernel) (pa_cons (pe_lc (own := [("row", 1)]) rfl sc_columns_of.nd (piT (K := K) rfl (pv 0)) (blkOk_by (own := [("row", 1)]) (N := ["rows", "row"]) (sc := defScope (top 24)) (by first | decide +kernel | kernel_rfl | rfl)) (fun _ _ _ _ _ => (pg_name (i := 1) sc_columns_of.nd rfl (Or.inl rfl))) (fun _ _ _ _ _ => pts_nil) (fun _ _ _ _ _ => (pe_cal c_turned_back (hr.mono (by decide)) (pa_cons (pv 1) pa_nil)))) pa_nil)))), ?_⟩
  refine ⟨_, rfl, a, rfl, ⟨_, SqT.of ha⟩, fun D hD => ?_⟩
  refine lc_gen walk_tup (by rw [List.length_map]; omega) hD (fun H' sm => SqT.of (sm _ _ ha)) (fun _ _ _ => True) (fun _ _ _ _ _ h => h) (fun k x H0 H' acc Kf hk sm hacc hy hK => ?_) (fun ys H' sm hy ly hr' => ?_)
  · obtain ⟨rfl, hx⟩ := hy
    obtain ⟨q1, r, rfl, hr1, t1, mr⟩ := eachSq (K := K) hE hx
    have pl := perm_lt (hw r mr)
    exact ⟨rfl, _, rfl, q1, r, rfl, t1.mono sm, by omega, fun x hx => by rw [pl.1]; exact pl.2 x hx, fun p H4 s4 _ => hK _ _ s4 trivial⟩
  · exact ⟨D, ys, rfl, .inl ⟨SqL.of hy, fun p hp => q p _ fun b u e => by rw [upd_ne (ne_of_none (sm _ _ e) hp)]; exact sm _ _ e⟩⟩
theorem sc_rows_of_signs : FnScope ["rows", "column"] ["rows"] (defScope (top 25)) := ⟨rfl, rfl, rfl, by decide +kernel, rfl, by decide +kernel, by decide +kernel⟩
theorem ok_rows_of_signs (T : Txt K mg) (c_turned_back : Cal P w K mg base 5 "turned_back" spTurned) (c_transposed : Cal P w K mg base 5 "transposed" spTransp) : Cal P w K mg base (6) "rows_of_signs" (spTurnedR) := by
  obtain ⟨fd, F⟩ := T.f_rows_of_signs
  refine cal_of T.g_rows_of_signs F sc_rows_of_signs (fun vs H Q E h => by first | (obtain ⟨_, rfl, _⟩ := h; rfl) | (obtain ⟨_, _, rfl, _⟩ := h; rfl) | (obtain ⟨_, _, _, rfl, _⟩ := h; rfl) | (obtain ⟨_, _, _, _, rfl, _⟩ := h; rfl) | (obtain ⟨_, _, _, _, _, rfl, _⟩ := h; rfl) | (obtain ⟨_, _, _, _, _, _, rfl, _⟩ := h; rfl) | (obtain ⟨_, _, _, _, _, _, _, rfl, _⟩ := h; rfl) | (obtain ⟨_, _, _, _, _, _, _, _, rfl, _⟩ := h; rfl)) (fun _ _ _ _ _ _ us hl => match us, hl with | [_], _ => rfl) (fun cdv A outer s H vs Q E hr h => ?_)
  obtain ⟨a, rs, rfl, hT, h24, hw, hc, q⟩ := h
  refine ⟨_, (pss_one (ps_ret (pe_callTy (tupOfK (K := K) rfl) (by rfl) T.z_tuple (by decide +kernel) (pa_cons (pe_lc (own := [("column", 1)]) rfl sc_rows_of_signs.nd (piT (K := K) rfl (pe_cal c_transposed (hr.mono (by decide)) (pa_cons (pv 0) pa_nil))) (blkOk_by (own := [("column", 1)]) (N := ["rows", "column"]) (sc := defScope (top 25)) (by first | decide +kernel | kernel_rfl | rfl)) (fun _ _ _ _ _ => (pg_name (i := 1) sc_rows_of_signs.nd rfl (Or.inl rfl))) (fun _ _ _ _ _ => pts_nil) (fun _ _ _ _ _ => (pe_cal c_turned_back (hr.mono (by decide)) (pa_cons (pv 1) pa_nil)))) pa_nil)))), ?_⟩
  refine ⟨_, rfl, a, rs, rfl, hT, h24, fun r m => (perm_lt (hw r m)).1, fun p H1 s1 ⟨ps, ha, hE⟩ => ?_⟩
  have lp := hE.length
  have lt : (transp rs).length = rs.length := by unfold transp; rw [List.length_map, List.length_range]
  refine ⟨p, rfl, ⟨_, SqT.of ha⟩, fun D hD => ?_⟩
  refine lc_gen walk_tup (by rw [List.length_map]; omega) hD (fun H' sm => SqT.of (sm _ _ ha)) (fun _ _ _ => True) (fun _ _ _ _ _ h => h) (fun k x H0 H' acc Kf hk sm hacc hy hK => ?_) (fun ys H' sm hy ly hr' => ?_)
  · obtain ⟨rfl, hx⟩ := hy
    obtain ⟨q1, r, rfl, hr1, t1, mr⟩ := eachSq (K := K) hE hx
    have pl := perm_lt (hc r mr)
    exact ⟨rfl, _, rfl, q1, r, rfl, t1.mono sm, by omega, fun x hx => by rw [pl.1]; exact pl.2 x hx, fun p H4 s4 _ => hK _ _ s4 trivial⟩
  · exact ⟨D, ys, rfl, .inl ⟨SqL.of hy, fun p hp => q p _ fun b u e => by rw [upd_ne (ne_of_none (sm _ _ (s1 _ _ e)) hp)]; exact sm _ _ (s1 _ _ e)⟩⟩
/-- sound rows are rows -/
def spAreRows : Sp := fun vs H Q _ => ∃ (a : Addr) (rs : Rows), vs = [.ref a] ∧ TupR H a rs ∧ Lat rs ∧ ∀ H', Same H H' → Q (.bl true) H'
theorem sc_are_rows : FnScope ["value", "row", "column"] ["value"] (defScope (top 22)) := ⟨rfl, rfl, rfl, by decide +kernel, rfl, by decide +kernel, by decide +kernel⟩
theorem ok_are_rows (T : Txt K mg) (c_is_renaming_of : Cal P w K mg base 4 "is_renaming_of" (spRen K)) (c_is_renaming : Cal P w K mg base 5 "is_renaming" spIsRen) (c_transposed : Cal P w K mg base 5 "transposed" spTransp) : Cal P w K mg base (7) "are_rows" (spAreRows) := by
  obtain ⟨fd, F⟩ := T.f_are_rows
  obtain ⟨_, hMAX_ORDER⟩ := T.i_MAX_ORDER
  refine cal_of T.g_are_rows F sc_are_rows (fun vs H Q E h => by first | (obtain ⟨_, rfl, _⟩ := h; rfl) | (obtain ⟨_, _, rfl, _⟩ := h; rfl) | (obtain ⟨_, _, _, rfl, _⟩ := h; rfl) | (obtain ⟨_, _, _, _, rfl, _⟩ := h; rfl) | (obtain ⟨_, _, _, _, _, rfl, _⟩ := h; rfl) | (obtain ⟨_, _, _, _, _, _, rfl, _⟩ := h; rfl) | (obtain ⟨_, _, _, _, _, _, _, rfl, _⟩ := h; rfl) | (obtain ⟨_, _, _, _, _, _, _, _, rfl, _⟩ := h; rfl)) (fun _ _ _ _ _ _ us hl => match us, hl with | [_], _ => rfl) (fun cdv A outer s H vs Q E hr h => ?_)
  obtain ⟨a, rs, rfl, hT, L, q⟩ := h
  have hT' := hT
  obtain ⟨ps, ha, hE⟩ := hT
  have lp := hE.length
  have h12 := L.le
  have hpos := L.pos
  refine ⟨_, (pss_cons (ps_if (PW.pt (pw_or (pt_not (pt_val (pe_callB (isiK (K := K) rfl) (by rfl) T.z_isinstance (by decide +kernel) (pa_cons (pv 0) (pa_cons (pe_bltn (v := .ty "tuple") (by rfl) T.z_tuple (by decide +kernel) rfl) pa_nil))))) (pw_or1 (pt_not (pt_chain op_le op_le (pe_int) (pe_callB (lenK (K := K) rfl) (by rfl) T.z_len (by decide +kernel) (pa_cons (pv 0) pa_nil)) (pe_glob (v := .int 24) (by rfl) hMAX_ORDER ⟨_, rfl⟩)))))) (pss_one (ps_ret (pe_bl))) pss_nil)
      (pss_cons (ps_if (pt_not (pt_val (pe_callB (cr_all rfl) (by rfl) T.z_all (by decide +kernel) (pa_cons (pe_lc (own := [("row", 1)]) rfl sc_are_rows.nd (piT (K := K) rfl (pv 0)) (blkOk_by (own := [("row", 1)]) (N := ["value", "row", "column"]) (sc := defScope (top 22)) (by first | decide +kernel | kernel_rfl | rfl)) (fun _ _ _ _ _ => (pg_name (i := 1) sc_are_rows.nd rfl (Or.inl rfl))) (fun _ _ _ _ _ => pts_nil) (fun _ _ _ _ _ => (pe_cal c_is_renaming_of (hr.mono (by decide)) (pa_cons (pe_callB (lenK (K := K) rfl) (by rfl) T.z_len (by decide +kernel) (pa_cons (pv 0) pa_nil)) (pa_cons (pv 1) pa_nil))))) pa_nil)))) (pss_one (ps_ret (pe_bl))) pss_nil)
      (pss_one (ps_ret (pe_callB (cr_all rfl) (by rfl) T.z_all (by decide +kernel) (pa_cons (pe_lc (own := [("column", 2)]) rfl sc_are_rows.nd (piT (K := K) rfl (pe_cal c_transposed (hr.mono (by decide)) (pa_cons (pv 0) pa_nil))) (blkOk_by (own := [("column", 2)]) (N := ["value", "row", "column"]) (sc := defScope (top 22)) (by first | decide +kernel | kernel_rfl | rfl)) (fun _ _ _ _ _ => (pg_name (i := 2) sc_are_rows.nd rfl (Or.inl rfl))) (fun _ _ _ _ _ => pts_nil) (fun _ _ _ _ _ => (pe_cal c_is_renaming (hr.mono (by decide)) (pa_cons (pv 2) pa_nil)))) pa_nil)))))), ?_⟩
  refine ⟨_, rfl, _, _, _, _, true, rfl, .ty _, .base (.tup ha), kit_ty (by decide +kernel), _, rfl, iteF ?_⟩
  refine ⟨_, rfl, a, _, rfl, .inr (SqT.of ha), _, _, rfl, rfl, _, rfl, ?_⟩
  rw [decide_eq_true (by rw [List.length_map]; omega)]
  refine iteT ⟨_, _, rfl, rfl, _, rfl, ?_⟩
  rw [decide_eq_true (by rw [List.length_map]; omega)]
  refine iteF ?_
  refine ⟨_, rfl, a, rfl, ⟨_, SqT.of ha⟩, fun D hD => ?_⟩
  refine lc_gen walk_tup (by rw [List.length_map]; omega) hD (fun H' sm => SqT.of (sm _ _ ha)) (fun _ _ y => y = .bl true) (fun _ _ _ _ _ h => h) (fun k x H0 H' acc Kf hk sm hacc hy hK => ?_) (fun ys H' sm hy ly hr' => ?_)
  · obtain ⟨rfl, hx⟩ := hy
    obtain ⟨q1, r, rfl, hr1, t1, mr⟩ := eachSq (K := K) hE hx
    have pl := perm_lt (L.row r mr)
    refine ⟨rfl, _, rfl, a, _, rfl, .inr (SqT.of (sm _ _ ha)), _, rfl, rs.length, _, _, by rw [List.length_map, lp]; rfl, by omega, .tup (t1.mono sm) (itm_vn r) (by rw [List.length_map]; omega), fun b H4 hb s4 => hK _ _ s4 ?_⟩
    rw [hb.mpr ⟨r, rfl, L.row r mr⟩]
  · refine ⟨D, _, rfl, SqL.of (by rw [hy, all_true hr' ly]), _, rfl, ?_⟩
    rw [show (List.replicate _ true).all id = true from List.all_eq_true.mpr fun b hb => (List.eq_of_mem_replicate hb)]
    refine iteF ?_
    refine ⟨_, rfl, a, rs, rfl, hT'.mono sm, by omega, fun r m => (perm_lt (L.row r m)).1, fun p H1 s1 ⟨ps1, ha1, hE1⟩ => ?_⟩
    have lp1 := hE1.length
    have lt : (transp rs).length = rs.length := by unfold transp; rw [List.length_map, List.length_range]
    refine ⟨p, rfl, ⟨_, SqT.of ha1⟩, fun D1 hD1 => ?_⟩
    refine lc_gen walk_tup (by rw [List.length_map]; omega) hD1 (fun H' sm => SqT.of (sm _ _ ha1)) (fun _ _ y => y = .bl true) (fun _ _ _ _ _ h => h) (fun k x H0 H' acc Kf hk sm hacc hy hK => ?_) (fun ys H' sm' hy ly hr' => ?_)
    · obtain ⟨rfl, hx⟩ := hy
      obtain ⟨q1, r, rfl, hr1, t1, mr⟩ := eachSq (K := K) hE1 hx
      have pl := perm_lt (L.col r mr)
      exact ⟨rfl, _, rfl, q1, r, rfl, t1.mono sm, by omega, by omega, by rw [pl.1]; exact L.col r mr, fun H4 s4 => hK _ _ s4 rfl⟩
    · refine ⟨D1, _, rfl, SqL.of (by rw [hy, all_true hr' ly]), ?_⟩
      rw [show (List.replicate _ true).all id = true from List.all_eq_true.mpr fun b hb => (List.eq_of_mem_replicate hb)]
      exact q _ fun b u e => sm' _ _ (s1 _ _ (sm _ _ e))
end
end K61

set_option Elab.async false
set_option maxRecDepth 100000
set_option maxHeartbeats 4000000
namespace K61
open PySem PySem.Spec PyProof.Rows L2
section
variable {P : Program} {w : World} {K : PySem.W.Frag} {mg : Str → Option Value} {base : Heap}
def spRowsTold : Sp := fun vs H Q _ => ∃ (a : Addr) (rs : Rows), vs = [.ref a] ∧ TupR H a rs ∧ Lat rs ∧ ∀ H', Same H H' → Q (.ref a) H'
theorem sc_rows_told : FnScope ["rows"] ["rows"] (defScope (top 27)) := ⟨rfl, rfl, rfl, by decide +kernel, rfl, by decide +kernel, by decide +kernel⟩
theorem ok_rows_told (T : Txt K mg) (c_are_rows : Cal P w K mg base 7 "are_rows" spAreRows) : Cal P w K mg base (8) "rows_told" (spRowsTold) := by
  obtain ⟨fd, F⟩ := T.f_rows_told
  refine cal_of T.g_rows_told F sc_rows_told (fun vs H Q E h => by first | (obtain ⟨_, rfl, _⟩ := h; rfl) | (obtain ⟨_, _, rfl, _⟩ := h; rfl) | (obtain ⟨_, _, _, rfl, _⟩ := h; rfl) | (obtain ⟨_, _, _, _, rfl, _⟩ := h; rfl) | (obtain ⟨_, _, _, _, _, rfl, _⟩ := h; rfl) | (obtain ⟨_, _, _, _, _, _, rfl, _⟩ := h; rfl) | (obtain ⟨_, _, _, _, _, _, _, rfl, _⟩ := h; rfl) | (obtain ⟨_, _, _, _, _, _, _, _, rfl, _⟩ := h; rfl)) (fun _ _ _ _ _ _ us hl => match us, hl with | [_], _ => rfl) (fun cdv A outer s H vs Q E hr h => ?_)
  obtain ⟨a, rs, rfl, hT, L, q⟩ := h
  have hT' := hT
  obtain ⟨ps, ha, hE⟩ := hT
  refine ⟨_, (pss_cons (ps_if (pt_val (pe_callB (isiK (K := K) rfl) (by rfl) T.z_isinstance (by decide +kernel) (pa_cons (pv 0) (pa_cons (pe_glob (v := .ref _) (by rfl) T.g_Made rfl) pa_nil)))) (pss_one (ps_never)) pss_nil)
      (pss_cons (ps_if (pt_not (pt_val (pe_cal c_are_rows (hr.mono (by decide)) (pa_cons (pv 0) pa_nil)))) (pss_one (ps_never)) pss_nil)
      (pss_one (ps_ret (pv 0))))), ?_⟩
  refine ⟨_, rfl, _, _, _, _, false, rfl, .own _, .base (.tup ha), T.o_Made, _, rfl, iteF ?_⟩
  refine ⟨_, rfl, a, rs, rfl, hT', L, fun H' sm => ⟨_, rfl, iteF ?_⟩⟩
  exact ⟨_, rfl, q H' sm⟩
/-- Table(rows) -/
def spTable (K : PySem.W.Frag) : Sp := fun vs H Q _ => ∃ (x dx : Addr) (H0 : Hp) (a : Addr) (rs : Rows), vs = [.ref x, .ref a] ∧ H = upd (upd H0 dx (.own x)) x (.ins (He.ga K "Table") dx []) ∧ H0 x = none ∧ H0 dx = none ∧ dx ≠ x ∧
  TupR H0 a rs ∧ Lat rs ∧ ∀ H', Same H0 H' → TabAt K H' x rs → Q .non H'
theorem sc_Table_init : FnScope ["self", "rows"] ["self", "rows"] (defScope (inClass (top 29) 1)) := ⟨rfl, rfl, rfl, by decide +kernel, rfl, by decide +kernel, by decide +kernel⟩
theorem ok_Table_init (T : Txt K mg) (c_rows_told : Cal P w K mg base 8 "rows_told" spRowsTold) (c_columns_of : Cal P w K mg base 6 "columns_of" spTurnedR) (c_rows_of_signs : Cal P w K mg base 6 "rows_of_signs" spTurnedR) : FnR P w K mg base CX0 (9) (He.ma K (He.ga K "Table") "__init__") (spTable K) := by
  obtain ⟨fd, F⟩ := T.f_Table_init
  refine met_of F sc_Table_init (fun vs H Q E h => by first | (obtain ⟨_, rfl, _⟩ := h; rfl) | (obtain ⟨_, _, rfl, _⟩ := h; rfl) | (obtain ⟨_, _, _, rfl, _⟩ := h; rfl) | (obtain ⟨_, _, _, _, rfl, _⟩ := h; rfl) | (obtain ⟨_, _, _, _, _, rfl, _⟩ := h; rfl) | (obtain ⟨_, _, _, _, _, _, rfl, _⟩ := h; rfl) | (obtain ⟨_, _, _, _, _, _, _, rfl, _⟩ := h; rfl) | (obtain ⟨_, _, _, _, _, _, _, _, rfl, _⟩ := h; rfl)) (fun _ _ _ _ _ _ us hl => match us, hl with | [_, _], _ => rfl) (fun cdv A outer s H vs Q E hr h => ?_)
  obtain ⟨x, dx, H0, a, rs, rfl, rfl, hx, hdx, hne, hT, L, q⟩ := h
  have h12 := L.le
  refine ⟨_, (pss_cons (SlX.ps_sl (pv 0) (pe_cal c_rows_told (hr.mono (by decide)) (pa_cons (pv 1) pa_nil)))
      (pss_cons (SlX.ps_sl (pv 0) (pe_callB (lenK (K := K) rfl) (by rfl) T.z_len (by decide +kernel) (pa_cons (peSl (K := K) rfl (pv 0)) pa_nil)))
      (pss_cons (SlX.ps_sl (pv 0) (pe_cal c_columns_of (hr.mono (by decide)) (pa_cons (peSl (K := K) rfl (pv 0)) pa_nil)))
      (pss_one (SlX.ps_sl (pv 0) (pe_cal c_rows_of_signs (hr.mono (by decide)) (pa_cons (peSl (K := K) rfl (pv 0)) pa_nil))))))), ?_⟩
  have s0 : Same H0 (upd (upd H0 dx (.own x)) x (.ins (He.ga K "Table") dx [])) := same_mk hx hdx
  refine ⟨_, rfl, a, rs, rfl, hT.mono s0, L, fun H1 s1 => ?_⟩
  have s1' : Same H0 H1 := fun b u e => s1 _ _ (s0 _ _ e)
  have k1 : SlX.Slt H1 x (He.ga K "Table") dx [] := .inl ⟨s1 _ _ upd_same, rfl⟩
  refine ⟨_, rfl, x, _, dx, _, _, _, rfl, k1, T.s_Table, T.l_Table_own_rows, ?_⟩
  have s2 : Same H0 (SlX.slH H1 x (He.ga K "Table") dx [none, none, none, some (.ref a)]) := Same.sl s1' hx hdx
  have k2 : SlX.Slt (SlX.slH H1 x (He.ga K "Table") dx [none, none, none, some (.ref a)]) x (He.ga K "Table") dx [none, none, none, some (.ref a)] := SlX.slH_slt hne
  obtain ⟨ps, ha, hE⟩ := hT
  have lp := hE.length
  refine ⟨_, rfl, x, _, dx, _, _, _, .ref a, rfl, k2, T.s_Table, T.l_Table_own_rows, rfl, a, _, rfl, .inr (SqT.of (s2 _ _ ha)), ?_⟩
  refine ⟨_, rfl, x, _, dx, _, _, _, rfl, k2, T.s_Table, T.l_Table_own_order, ?_⟩
  have s3 : Same H0 (SlX.slH (SlX.slH H1 x (He.ga K "Table") dx [none, none, none, some (.ref a)]) x (He.ga K "Table") dx [none, some (vn (ps.map V.ref).length), none, some (.ref a)]) := Same.sl s2 hx hdx
  have k3 : SlX.Slt (SlX.slH (SlX.slH H1 x (He.ga K "Table") dx [none, none, none, some (.ref a)]) x (He.ga K "Table") dx [none, some (vn (ps.map V.ref).length), none, some (.ref a)]) x (He.ga K "Table") dx [none, some (vn (ps.map V.ref).length), none, some (.ref a)] := SlX.slH_slt hne
  have hT : TupR H0 a rs := ⟨ps, ha, hE⟩
  refine ⟨_, rfl, x, _, dx, _, _, _, .ref a, rfl, k3, T.s_Table, T.l_Table_own_rows, rfl, a, rs, rfl, hT.mono s3, by omega, L.row, L.col, fun p1 H4 s4 => ?_⟩
  have s4' : Same H0 H4 := fun b u e => s4 _ _ (s3 _ _ e)
  refine ⟨_, rfl, x, _, dx, _, _, _, rfl, Slt.mono k3 s4, T.s_Table, T.l_Table_own_places, ?_⟩
  have s5 : Same H0 (SlX.slH H4 x (He.ga K "Table") dx [none, some (vn (ps.map V.ref).length), some (.ref p1), some (.ref a)]) := Same.sl s4' hx hdx
  have k5 : SlX.Slt (SlX.slH H4 x (He.ga K "Table") dx [none, some (vn (ps.map V.ref).length), some (.ref p1), some (.ref a)]) x (He.ga K "Table") dx [none, some (vn (ps.map V.ref).length), some (.ref p1), some (.ref a)] := SlX.slH_slt hne
  refine ⟨_, rfl, x, _, dx, _, _, _, .ref a, rfl, k5, T.s_Table, T.l_Table_own_rows, rfl, a, rs, rfl, hT.mono s5, by omega, L.row, L.col, fun p2 H6 s6 => ?_⟩
  have s6' : Same H0 H6 := fun b u e => s6 _ _ (s5 _ _ e)
  refine ⟨_, rfl, x, _, dx, _, _, _, rfl, Slt.mono k5 s6, T.s_Table, T.l_Table_own_heads, ?_⟩
  refine q _ (Same.sl s6' hx hdx) ⟨dx, p2, p1, a, ?_, hT.mono (Same.sl s6' hx hdx)⟩
  have := SlX.slH_slt (H := H6) (C := He.ga K "Table") (vs := [some (.ref p2), some (vn (ps.map V.ref).length), some (.ref p1), some (.ref a)]) hne
  rw [← lp, ← List.length_map (f := V.ref) (as := ps)]
  exact this
def spTabT (K : PySem.W.Frag) : Sp := fun vs H Q _ => ∃ (t : Addr) (rs : Rows), vs = [.ref t] ∧ TabAt K H t rs ∧ Lat rs ∧ ∀ H', Same H H' → Q (.bl true) H'
theorem sc_Table_is_ordered : FnScope ["self", "ascending", "row"] ["self"] (defScope (inClass (top 29) 7)) := ⟨rfl, rfl, rfl, by decide +kernel, rfl, by decide +kernel, by decide +kernel⟩
theorem ok_Table_is_ordered (T : Txt K mg)  : FnR P w K mg base CX0 (3) (pgA K "Table" "is_ordered") (spTabT K) := by
  obtain ⟨fd, F⟩ := T.f_Table_is_ordered
  refine met_of F sc_Table_is_ordered (fun vs H Q E h => by first | (obtain ⟨_, rfl, _⟩ := h; rfl) | (obtain ⟨_, _, rfl, _⟩ := h; rfl) | (obtain ⟨_, _, _, rfl, _⟩ := h; rfl) | (obtain ⟨_, _, _, _, rfl, _⟩ := h; rfl) | (obtain ⟨_, _, _, _, _, rfl, _⟩ := h; rfl) | (obtain ⟨_, _, _, _, _, _, rfl, _⟩ := h; rfl) | (obtain ⟨_, _, _, _, _, _, _, rfl, _⟩ := h; rfl) | (obtain ⟨_, _, _, _, _, _, _, _, rfl, _⟩ := h; rfl)) (fun _ _ _ _ _ _ us hl => match us, hl with | [_], _ => rfl) (fun cdv A outer s H vs Q E hr h => ?_)
  obtain ⟨t, rs, rfl, ⟨dx, p1, p2, r, hS, hT⟩, L, q⟩ := h
  have h12 := L.le
  refine ⟨_, (pss_cons (ps_set (i := 1) sc_Table_is_ordered.nd rfl (Or.inl rfl) (pe_tupRg rfl (by rfl) T.z_tuple (prg_1 (by rfl) T.z_range (peSl (K := K) rfl (pv 0)))))
      (pss_one (ps_ret (pe_and (pe_cmpR (op_eqD hr.units) (pe_ix (ixT (K := K) rfl) (peSl (K := K) rfl (pv 0)) (pe_int) (fun _ _ => rfl)) (pv 1) (nomark _)) (pe_one (pe_cmpR (op_eqD hr.units) (pe_callTy (tupOfK (K := K) rfl) (by rfl) T.z_tuple (by decide +kernel) (pa_cons (pe_lc (own := [("row", 2)]) rfl sc_Table_is_ordered.nd (piT (K := K) rfl (peSl (K := K) rfl (pv 0))) (blkOk_by (own := [("row", 2)]) (N := ["self", "ascending", "row"]) (sc := defScope (inClass (top 29) 7)) (by first | decide +kernel | kernel_rfl | rfl)) (fun _ _ _ _ _ => (pg_name (i := 2) sc_Table_is_ordered.nd rfl (Or.inl rfl))) (fun _ _ _ _ _ => pts_nil) (fun _ _ _ _ _ => (pe_ix (ixT (K := K) rfl) (pv 2) (pe_int) (fun _ _ => rfl)))) pa_nil)) (pv 1) (nomark _))))))), ?_⟩
  refine ⟨_, rfl, t, _, dx, _, _, _, vn rs.length, rfl, hS, T.s_Table, T.l_Table_own_order, rfl, _, rfl, RgOk.n (by omega), fun A hA => ?_⟩
  rw [rgN]
  have s1 := same_upd (o := .tup ((List.range rs.length).map vn)) hA
  have hA' : TupN (upd H A (.tup ((List.range rs.length).map vn))) A (List.range rs.length) := upd_same
  generalize upd H A (.tup ((List.range rs.length).map vn)) = H1 at s1 hA'
  have hT1 := hT.mono s1
  have hS1 := Slt.mono hS s1
  obtain ⟨ps, ha, hE⟩ := hT1
  have lp := hE.length
  obtain ⟨q0, hq0, t0⟩ := hE.get' L.first
  refine ⟨_, rfl, t, _, dx, _, _, _, .ref r, rfl, hS1, T.s_Table, T.l_Table_own_rows, rfl, r, _, _, .ref q0, rfl, rfl, SqT.of ha, atV (by rw [List.getElem?_map, hq0]; rfl), _, rfl, ?_⟩
  refine eq_rows t0 hA' ⟨_, rfl, ?_⟩
  rw [decide_eq_true rfl]
  refine iteT ?_
  refine ⟨_, rfl, t, _, dx, _, _, _, .ref r, rfl, hS1, T.s_Table, T.l_Table_own_rows, rfl, r, rfl, ⟨_, SqT.of ha⟩, fun D hD => ?_⟩
  refine lc_gen walk_tup (by rw [List.length_map]; omega) hD (fun H' sm => SqT.of (sm _ _ ha)) (fun _ j y => ∃ r, rs[j]? = some r ∧ y = vn (r.getD 0 0)) (fun _ _ _ _ _ h => h) (fun k x H0 H' acc Kf hk sm hacc hy hK => ?_) (fun ys H' sm hy ly hr' => ?_)
  · obtain ⟨rfl, hx⟩ := hy
    obtain ⟨q1, rr, rfl, hr1, t1, mr⟩ := eachSq (K := K) hE hx
    have pl := perm_lt (L.row rr mr)
    have hpos := L.pos
    exact ⟨rfl, _, rfl, q1, _, ((0 : Nat) : Int), _, rfl, rfl, SqT.of (t1.mono sm), atN (by omega), hK _ _ sRefl ⟨rr, hr1, rfl⟩⟩
  · have e2 : ys = (List.range rs.length).map vn := by
      rw [ints_of ys (fun j => ((rs.getD j []).getD 0 0)) fun j y e => ?_, ly, List.length_map, lp, map_range_get rs (fun r => r.getD 0 0), L.heads]
      · intro j r e
        rw [getD_of e]
      · obtain ⟨r, h1, rfl⟩ := hr' j y e
        rw [getD_of (l := rs) h1]
    refine ⟨D, ys, rfl, .inl ⟨SqL.of hy, fun p hp => ⟨_, rfl, ?_⟩⟩⟩
    have s2 : Same H1 (upd H' p (.tup ys)) := fun b u e => by rw [upd_ne (ne_of_none (sm _ _ e) hp)]; exact sm _ _ e
    refine eq_rows (l := List.range rs.length) (by show upd _ _ _ _ = _; rw [upd_same, e2]) (hA'.mono s2) ?_
    rw [decide_eq_true rfl]
    exact q _ fun b u e => s2 _ _ (s1 _ _ e)
def spReqTable (K : PySem.W.Frag) : Sp := fun vs H Q _ => ∃ (t : Addr) (rs : Rows), vs = [.ref t] ∧ TabAt K H t rs ∧ Q .non H
theorem sc_require_table : FnScope ["value"] ["value"] (defScope (top 30)) := ⟨rfl, rfl, rfl, by decide +kernel, rfl, by decide +kernel, by decide +kernel⟩
theorem ok_require_table (T : Txt K mg)  : Cal P w K mg base (3) "require_table" (spReqTable K) := by
  obtain ⟨fd, F⟩ := T.f_require_table
  refine cal_of T.g_require_table F sc_require_table (fun vs H Q E h => by first | (obtain ⟨_, rfl, _⟩ := h; rfl) | (obtain ⟨_, _, rfl, _⟩ := h; rfl) | (obtain ⟨_, _, _, rfl, _⟩ := h; rfl) | (obtain ⟨_, _, _, _, rfl, _⟩ := h; rfl) | (obtain ⟨_, _, _, _, _, rfl, _⟩ := h; rfl) | (obtain ⟨_, _, _, _, _, _, rfl, _⟩ := h; rfl) | (obtain ⟨_, _, _, _, _, _, _, rfl, _⟩ := h; rfl) | (obtain ⟨_, _, _, _, _, _, _, _, rfl, _⟩ := h; rfl)) (fun _ _ _ _ _ _ us hl => match us, hl with | [_], _ => rfl) (fun cdv A outer s H vs Q E hr h => ?_)
  obtain ⟨t, rs, rfl, ⟨dx, p1, p2, r, hS, hT⟩, q⟩ := h
  refine ⟨_, (pss_one (ps_if (pt_not (pt_val (pe_callB (SlX.call_isiSl (.ref (He.ga K "Table"))) (by rfl) T.z_isinstance (by decide +kernel) (pa_cons (pv 0) (pa_cons (pe_glob (v := .ref _) (by rfl) T.g_Table rfl) pa_nil))))) (pss_one (ps_never)) pss_nil)), ?_⟩
  exact ⟨_, rfl, t, _, dx, _, _, true, rfl, rfl, fun w h => h, hS, T.s_Table, T.w_Table, T.o_Table, _, rfl, iteF q⟩
def spReqSmall (K : PySem.W.Frag) : Sp := fun vs H Q _ => ∃ (t : Addr) (rs : Rows) (n : Nat), vs = [.ref t, vn n] ∧ TabAt K H t rs ∧ rs.length ≤ n ∧ Q .non H
theorem sc_require_small : FnScope ["table", "most"] ["table", "most"] (defScope (top 31)) := ⟨rfl, rfl, rfl, by decide +kernel, rfl, by decide +kernel, by decide +kernel⟩
theorem ok_require_small (T : Txt K mg)  : Cal P w K mg base (3) "require_small" (spReqSmall K) := by
  obtain ⟨fd, F⟩ := T.f_require_small
  refine cal_of T.g_require_small F sc_require_small (fun vs H Q E h => by first | (obtain ⟨_, rfl, _⟩ := h; rfl) | (obtain ⟨_, _, rfl, _⟩ := h; rfl) | (obtain ⟨_, _, _, rfl, _⟩ := h; rfl) | (obtain ⟨_, _, _, _, rfl, _⟩ := h; rfl) | (obtain ⟨_, _, _, _, _, rfl, _⟩ := h; rfl) | (obtain ⟨_, _, _, _, _, _, rfl, _⟩ := h; rfl) | (obtain ⟨_, _, _, _, _, _, _, rfl, _⟩ := h; rfl) | (obtain ⟨_, _, _, _, _, _, _, _, rfl, _⟩ := h; rfl)) (fun _ _ _ _ _ _ us hl => match us, hl with | [_, _], _ => rfl) (fun cdv A outer s H vs Q E hr h => ?_)
  obtain ⟨t, rs, n, rfl, ⟨dx, p1, p2, r, hS, hT⟩, hn, q⟩ := h
  refine ⟨_, (pss_one (ps_if (pt_cmpR op_gt (peSl (K := K) rfl (pv 0)) (pv 1) (nomark _)) (pss_one (ps_never)) pss_nil)), ?_⟩
  refine ⟨_, rfl, t, _, dx, _, _, _, vn rs.length, rfl, hS, T.s_Table, T.l_Table_own_order, rfl, _, rfl, _, _, rfl, rfl, _, rfl, ?_⟩
  rw [decide_eq_false (by omega)]
  exact iteF q
end
end K61

set_option Elab.async false
set_option maxRecDepth 100000
set_option maxHeartbeats 4000000
namespace K61
open PySem PySem.Spec PyProof.Rows L2
section
variable {P : Program} {w : World} {K : PySem.W.Frag} {mg : Str → Option Value} {base : Heap}
def spShare : Sp := fun vs H Q _ => ∃ n : Nat, vs = [vn n] ∧ 1 ≤ n ∧ n ≤ 1000 ∧ Q (vn (share n)) H
theorem mod_big {n f : Nat} (h1 : 1 ≤ n) (h2 : n < f) : n % (2 * f) ≠ 0 := by rw [Nat.mod_eq_of_lt (by omega)]; omega
theorem sc_even_share : FnScope ["order", "found"] ["order"] (defScope (top 42)) := ⟨rfl, rfl, rfl, by decide +kernel, rfl, by decide +kernel, by decide +kernel⟩
theorem ok_even_share (T : Txt K mg)  : Cal P w K mg base (2) "even_share" (spShare) := by
  obtain ⟨fd, F⟩ := T.f_even_share
  refine cal_of T.g_even_share F sc_even_share (fun vs H Q E h => by first | (obtain ⟨_, rfl, _⟩ := h; rfl) | (obtain ⟨_, _, rfl, _⟩ := h; rfl) | (obtain ⟨_, _, _, rfl, _⟩ := h; rfl) | (obtain ⟨_, _, _, _, rfl, _⟩ := h; rfl) | (obtain ⟨_, _, _, _, _, rfl, _⟩ := h; rfl) | (obtain ⟨_, _, _, _, _, _, rfl, _⟩ := h; rfl) | (obtain ⟨_, _, _, _, _, _, _, rfl, _⟩ := h; rfl) | (obtain ⟨_, _, _, _, _, _, _, _, rfl, _⟩ := h; rfl)) (fun _ _ _ _ _ _ us hl => match us, hl with | [_], _ => rfl) (fun cdv A outer s H vs Q E hr h => ?_)
  obtain ⟨n, rfl, h1, h2, q⟩ := h
  refine ⟨_, (pss_cons (ps_set (i := 1) sc_even_share.nd rfl (Or.inl rfl) (pe_int))
      (pss_cons (ps_while PassesOwn.never (pt_cmpR op_eq (pe_op op_mod (pv 0) (pe_op op_mul (pe_int) (pv 1))) (pe_int) (nomark _)) (pss_one (ps_aug (i := 1) sc_even_share.nd rfl (Or.inl rfl) (pe_int) ip_mul)))
      (pss_one (ps_ret (pv 1))))), ?_⟩
  have e64 : (2 : Nat) ^ 64 = 18446744073709551616 := by decide
  refine ⟨fun m σ H' => H' = H ∧ ∃ f : Nat, σ = [some (vn n), some (vn f)] ∧ shareGo n m f = share n ∧ n < f * 2 ^ m ∧ 1 ≤ f ∧ f ≤ n, ⟨64, rfl, 1, rfl, rfl, by omega, by omega, by omega⟩, fun m σ H' p => ?_⟩
  obtain ⟨rfl, f, rfl, e, hf, hf1, hf2⟩ := p
  refine ⟨_, rfl, _, rfl, _, _, rfl, rfl, .inl ⟨by omega, by omega⟩, _, _, rfl, rfl, by omega, rfl, _, rfl, ?_⟩
  have ec : (n : Int) % (2 * (f : Int)) = ((n % (2 * f) : Nat) : Int) := by rw [Int.natCast_emod]; rfl
  show (if decide (V.int ((n : Int) % (2 * (f : Int))) = V.int 0) = true then _ else _)
  rw [ec, dec_v0]
  by_cases hm : n % (2 * f) = 0
  · rw [decide_eq_true hm]
    refine iteT ?_
    cases m with
    | zero => exact absurd hm (mod_big h1 (by simpa using hf))
    | succ m =>
      unfold shareGo at e
      rw [if_pos hm] at e
      refine ⟨fun σ' H'' => H'' = H' ∧ ∃ f : Nat, σ' = [some (vn n), some (vn f)] ∧ shareGo n m f = share n ∧ n < f * 2 ^ m ∧ 1 ≤ f ∧ f ≤ n, fun σ' H'' p => ⟨m, Nat.lt_succ_self _, p⟩, ?_⟩
      refine ⟨_, rfl, _, _, rfl, rfl, .inr ⟨by omega, by omega⟩, rfl, 2 * f, ?_, e, by rw [Nat.pow_succ] at hf; rw [Nat.mul_comm 2 f, Nat.mul_assoc, Nat.mul_comm 2]; exact hf, by omega, Nat.le_of_dvd (by omega) (Nat.dvd_of_mod_eq_zero hm) |> fun z => by omega⟩
      show [some (vn n), some (V.int ((f : Int) * 2))] = _
      rw [show (f : Int) * 2 = ((2 * f : Nat) : Int) by omega]
  · rw [decide_eq_false hm]
    refine iteF ?_
    have ef : f = share n := by
      cases m with
      | zero => exact e
      | succ m =>
        unfold shareGo at e
        rw [if_neg hm] at e
        exact e
    exact ⟨_, rfl, by rw [ef]; exact q⟩
def spGrpRows : Sp := fun vs H Q _ => ∃ (a : Addr) (rs : Rows), vs = [.ref a] ∧ TupR H a rs ∧ Grp rs ∧ ∀ H', Same H H' → Q (.bl true) H'
theorem tupR_get {H : Hp} {ps : List Addr} {rs : Rows} {k : Nat} {r : List Nat} (hE : Each TupN H ps rs) (e : rs[k]? = some r) : ∃ p, atI (ps.map V.ref) (k : Int) = some (.ref p) ∧ TupN H p r := by
  obtain ⟨p, h1, h2⟩ := hE.get' e
  exact ⟨p, atV (by rw [List.getElem?_map, h1]; rfl), h2⟩
theorem eachM {H H' : Hp} {ps : List Addr} {rs : Rows} (h : Each TupN H ps rs) (s : Same H H') : Each TupN H' ps rs := h.mono fun a l t => t.mono s
theorem sc_is_group_rows : FnScope ["rows", "x", "y", "sign"] ["rows"] (defScope (top 50)) := ⟨rfl, rfl, rfl, by decide +kernel, rfl, by decide +kernel, by decide +kernel⟩
theorem ok_is_group_rows (T : Txt K mg)  : Cal P w K mg base (5) "is_group_rows" (spGrpRows) := by
  obtain ⟨fd, F⟩ := T.f_is_group_rows
  refine cal_of T.g_is_group_rows F sc_is_group_rows (fun vs H Q E h => by first | (obtain ⟨_, rfl, _⟩ := h; rfl) | (obtain ⟨_, _, rfl, _⟩ := h; rfl) | (obtain ⟨_, _, _, rfl, _⟩ := h; rfl) | (obtain ⟨_, _, _, _, rfl, _⟩ := h; rfl) | (obtain ⟨_, _, _, _, _, rfl, _⟩ := h; rfl) | (obtain ⟨_, _, _, _, _, _, rfl, _⟩ := h; rfl) | (obtain ⟨_, _, _, _, _, _, _, rfl, _⟩ := h; rfl) | (obtain ⟨_, _, _, _, _, _, _, _, rfl, _⟩ := h; rfl)) (fun _ _ _ _ _ _ us hl => match us, hl with | [_], _ => rfl) (fun cdv A outer s H vs Q E hr h => ?_)
  obtain ⟨a, rs, rfl, ⟨ps, ha, hE⟩, G, q⟩ := h
  have h12 := G.le
  have lp := hE.length
  refine ⟨_, (pss_cons (ps_for PassesOwn.never rfl (piT (K := K) rfl (pv 0)) (pg_name (i := 1) sc_is_group_rows.nd rfl (Or.inr rfl)) (pss_one (ps_for PassesOwn.never rfl (piT (K := K) rfl (pv 0)) (pg_name (i := 2) sc_is_group_rows.nd rfl (Or.inl rfl)) (pss_one (ps_if (pt_cmpR (op_neD hr.units) (pe_ix (ixT (K := K) rfl) (pv 0) (pe_ix (ixT (K := K) rfl) (pv 1) (pe_ix (ixT (K := K) rfl) (pv 2) (pe_int) (fun _ _ => rfl)) (fun _ _ => rfl)) (fun _ _ => rfl)) (pe_callTy (tupOfK (K := K) rfl) (by rfl) T.z_tuple (by decide +kernel) (pa_cons (pe_lc (own := [("sign", 3)]) rfl sc_is_group_rows.nd (piT (K := K) rfl (pv 2)) (blkOk_by (own := [("sign", 3)]) (N := ["rows", "x", "y", "sign"]) (sc := defScope (top 50)) (by first | decide +kernel | kernel_rfl | rfl)) (fun _ _ _ _ _ => (pg_name (i := 3) sc_is_group_rows.nd rfl (Or.inl rfl))) (fun _ _ _ _ _ => pts_nil) (fun _ _ _ _ _ => (pe_ix (ixT (K := K) rfl) (pv 1) (pv 3) (fun _ _ => rfl)))) pa_nil)) (nomark _)) (pss_one (ps_ret (pe_bl))) pss_nil)))))
      (pss_one (ps_ret (pe_bl)))), ?_⟩
  refine ⟨_, rfl, a, rfl, ⟨_, SqT.of ha⟩, ?_⟩
  refine for_it walk_tup (fun i σ H' => (∃ x y z, σ = [some (.ref a), x, y, z]) ∧ Same H H') ⟨⟨_, _, _, rfl⟩, sRefl⟩ (fun i σ H' _ p => SqT.of (p.2 _ _ ha)) (fun i x σ H1 H2 hi p y => ?_) (fun σ H' p => ?_)
  · obtain ⟨⟨_, _, _, rfl⟩, sm⟩ := p
    obtain ⟨rfl, hx⟩ := y
    obtain ⟨qx, rx, rfl, hrx, tx, mx⟩ := eachSq (K := K) hE hx
    refine ⟨_, rfl, a, rfl, ⟨_, SqT.of (sm _ _ ha)⟩, ?_⟩
    refine for_it walk_tup (fun i σ H' => (∃ y z, σ = [some (.ref a), some (.ref qx), y, z]) ∧ Same H H') ⟨⟨_, _, rfl⟩, sm⟩ (fun i σ H' _ p => SqT.of (p.2 _ _ ha)) (fun j y σ H1 H3 hj p y => ?_) (fun σ H' p => ?_)
    · obtain ⟨⟨_, _, rfl⟩, sm⟩ := p
      obtain ⟨rfl, hy⟩ := y
      obtain ⟨qy, ry, rfl, hry, ty, my⟩ := eachSq (K := K) hE hy
      have px := perm_lt (G.row rx mx)
      have py := perm_lt (G.row ry my)
      have hpos := G.pos
      have hm := G.mul rx mx ry my
      obtain ⟨pr, hpr, tr⟩ := tupR_get (eachM hE sm) hm
      have hy0 : ry.getD 0 0 < rs.length := by
        rw [List.getD_eq_getElem?_getD, List.getElem?_eq_getElem (by omega)]
        exact py.2 _ (List.getElem_mem _)
      refine ⟨_, rfl, _, rfl, _, rfl, qy, _, ((0 : Nat) : Int), _, rfl, rfl, SqT.of (ty.mono sm), atN (by omega), qx, _, _, _, rfl, rfl, SqT.of (tx.mono sm), atN (by omega), a, _, _, .ref pr, rfl, rfl, SqT.of (sm _ _ ha), hpr, ?_⟩
      refine ⟨_, rfl, qy, rfl, ⟨_, SqT.of (ty.mono sm)⟩, fun D hD => ?_⟩
      refine lc_gen walk_tup (by rw [List.length_map]; omega) hD (fun H' s' => SqT.of (s' _ _ (ty.mono sm))) (fun _ k v => v = vn (rx.getD (ry.getD k 0) 0)) (fun _ _ _ _ _ h => h) (fun k x H0 H' acc Kf hk s' hacc hy hK => ?_) (fun ys H' s' hy ly hr' => ?_)
      · obtain ⟨rfl, hx⟩ := hy
        rw [List.length_map] at hk
        rw [List.getElem?_map, List.getElem?_eq_getElem hk] at hx
        cases hx
        have hlt := py.2 _ (List.getElem_mem hk)
        refine ⟨rfl, _, rfl, _, rfl, qx, _, _, _, rfl, rfl, SqT.of (s' _ _ (tx.mono sm)), atN (by omega), hK _ _ sRefl ?_⟩
        rw [List.getD_eq_getElem?_getD (l := ry), List.getElem?_eq_getElem hk]
        rfl
      · have e2 : ys = (ry.map fun s => rx.getD s 0).map vn := by
          rw [ints_of ys (fun k => rx.getD (ry.getD k 0) 0) hr', ly, List.length_map, map_range_get ry (fun s => rx.getD s 0)]
          intro j r e
          rw [getD_of e]
        refine ⟨D, ys, rfl, .inl ⟨SqL.of hy, fun p hp => ?_⟩⟩
        have s2 : Same H3 (upd H' p (.tup ys)) := fun b u e => by rw [upd_ne (ne_of_none (s' _ _ e) hp)]; exact s' _ _ e
        refine ne_rows (tr.mono s2) (m := ry.map fun s => rx.getD s 0) (by show upd _ _ _ _ = _; rw [upd_same, e2]) ⟨_, rfl, ?_⟩
        rw [decide_eq_true rfl]
        exact iteF ⟨⟨_, _, rfl⟩, fun b u e => s2 _ _ (sm _ _ e)⟩
    · obtain ⟨⟨_, _, rfl⟩, sm⟩ := p
      exact ⟨⟨_, _, _, rfl⟩, sm⟩
  · exact q H' p.2
def spLoop (K : PySem.W.Frag) : Sp := fun vs H Q _ => ∃ (x dx : Addr) (H0 : Hp) (t : Addr) (rs : Rows), vs = [.ref x, .ref t] ∧ H = upd (upd H0 dx (.own x)) x (.ins (He.ga K "Loop") dx []) ∧ H0 x = none ∧ H0 dx = none ∧ dx ≠ x ∧
  TabAt K H0 t rs ∧ Lat rs ∧ ∀ H', Same H0 H' → LoopAt K H' x rs → Q .non H'
theorem sc_Loop_init : FnScope ["self", "table"] ["self", "table"] (defScope (inClass (top 49) 1)) := ⟨rfl, rfl, rfl, by decide +kernel, rfl, by decide +kernel, by decide +kernel⟩
theorem ok_Loop_init (T : Txt K mg) (c_require_table : Cal P w K mg base 3 "require_table" (spReqTable K)) (m_Table_is_ordered : FnR P w K mg base CX0 3 (pgA K "Table" "is_ordered") (spTabT K)) : FnR P w K mg base CX0 (5) (He.ma K (He.ga K "Loop") "__init__") (spLoop K) := by
  obtain ⟨fd, F⟩ := T.f_Loop_init
  refine met_of F sc_Loop_init (fun vs H Q E h => by first | (obtain ⟨_, rfl, _⟩ := h; rfl) | (obtain ⟨_, _, rfl, _⟩ := h; rfl) | (obtain ⟨_, _, _, rfl, _⟩ := h; rfl) | (obtain ⟨_, _, _, _, rfl, _⟩ := h; rfl) | (obtain ⟨_, _, _, _, _, rfl, _⟩ := h; rfl) | (obtain ⟨_, _, _, _, _, _, rfl, _⟩ := h; rfl) | (obtain ⟨_, _, _, _, _, _, _, rfl, _⟩ := h; rfl) | (obtain ⟨_, _, _, _, _, _, _, _, rfl, _⟩ := h; rfl)) (fun _ _ _ _ _ _ us hl => match us, hl with | [_, _], _ => rfl) (fun cdv A outer s H vs Q E hr h => ?_)
  obtain ⟨x, dx, H0, t, rs, rfl, rfl, hx, hdx, hne, hT, L, q⟩ := h
  have h12 := L.le
  refine ⟨_, (pss_cons (ps_expr (pe_cal c_require_table (hr.mono (by decide)) (pa_cons (pv 1) pa_nil)))
      (pss_cons (ps_if (pt_not (pt_val (SlX.pe_propSl (E := E0) (pv 1) T.s_Table T.p_Table_is_ordered.at_ T.p_Table_is_ordered.get T.p_Table_is_ordered.tk T.p_Table_is_ordered.rc m_Table_is_ordered (hr.mono (by decide)) (fun _ _ _ _ h => h.elim)))) (pss_one (ps_never)) pss_nil)
      (pss_cons (SlX.ps_sl (pv 0) (pv 1))
      (pss_cons (SlX.ps_sl (pv 0) (peSl (K := K) rfl (pv 1)))
      (pss_one (SlX.ps_sl (pv 0) (pe_tupRg rfl (by rfl) T.z_tuple (prg_1 (by rfl) T.z_range (peSl (K := K) rfl (pv 1)))))))))), ?_⟩
  have s0 : Same H0 (upd (upd H0 dx (.own x)) x (.ins (He.ga K "Loop") dx [])) := same_mk hx hdx
  have hT0 := hT.mono s0
  have hTc := hT
  obtain ⟨d1, p1, p2, r, hS, hR⟩ := hTc
  refine ⟨_, rfl, t, rs, rfl, hT0, ?_⟩
  refine ⟨_, rfl, t, d1, _, rfl, Slt.mono hS s0, t, rs, rfl, hT0, L, fun H1 s1 => ⟨_, rfl, iteF ?_⟩⟩
  have s1' : Same H0 H1 := fun b u e => s1 _ _ (s0 _ _ e)
  have k1 : SlX.Slt H1 x (He.ga K "Loop") dx [] := .inl ⟨s1 _ _ upd_same, rfl⟩
  refine ⟨_, rfl, _, rfl, x, _, dx, _, _, _, rfl, k1, T.s_Loop, T.l_Loop_own_table, ?_⟩
  have s2 : Same H0 (SlX.slH H1 x (He.ga K "Loop") dx [none, none, some (.ref t)]) := Same.sl s1' hx hdx
  have k2 : SlX.Slt (SlX.slH H1 x (He.ga K "Loop") dx [none, none, some (.ref t)]) x (He.ga K "Loop") dx [none, none, some (.ref t)] := SlX.slH_slt hne
  refine ⟨_, rfl, t, _, d1, _, _, _, .ref r, rfl, Slt.mono hS s2, T.s_Table, T.l_Table_own_rows, rfl, ?_⟩
  refine ⟨_, rfl, x, _, dx, _, _, _, rfl, k2, T.s_Loop, T.l_Loop_own_rows, ?_⟩
  have s3 : Same H0 (SlX.slH (SlX.slH H1 x (He.ga K "Loop") dx [none, none, some (.ref t)]) x (He.ga K "Loop") dx [none, some (.ref r), some (.ref t)]) := Same.sl s2 hx hdx
  have k3 : SlX.Slt (SlX.slH (SlX.slH H1 x (He.ga K "Loop") dx [none, none, some (.ref t)]) x (He.ga K "Loop") dx [none, some (.ref r), some (.ref t)]) x (He.ga K "Loop") dx [none, some (.ref r), some (.ref t)] := SlX.slH_slt hne
  refine ⟨_, rfl, t, _, d1, _, _, _, vn rs.length, rfl, Slt.mono hS s3, T.s_Table, T.l_Table_own_order, rfl, _, rfl, RgOk.n (by omega), fun A hA => ?_⟩
  rw [rgN]
  have s4 := same_upd (o := .tup ((List.range rs.length).map vn)) hA
  have hA' : TupN (upd (SlX.slH (SlX.slH H1 x (He.ga K "Loop") dx [none, none, some (.ref t)]) x (He.ga K "Loop") dx [none, some (.ref r), some (.ref t)]) A (.tup ((List.range rs.length).map vn))) A (List.range rs.length) := upd_same
  have k4 := Slt.mono k3 s4
  have s4' : Same H0 (upd (SlX.slH (SlX.slH H1 x (He.ga K "Loop") dx [none, none, some (.ref t)]) x (He.ga K "Loop") dx [none, some (.ref r), some (.ref t)]) A (.tup ((List.range rs.length).map vn))) := fun b u e => s4 _ _ (s3 _ _ e)
  refine ⟨_, rfl, x, _, dx, _, _, _, rfl, k4, T.s_Loop, T.l_Loop_own_names, ?_⟩
  have s5 := Same.sl (C := He.ga K "Loop") (vs := [some (.ref A), some (.ref r), some (.ref t)]) s4' hx hdx
  refine q _ s5 ⟨dx, A, r, t, SlX.slH_slt hne, ?_, hR.mono s5, hT.mono s5⟩
  · have nA : A ≠ x := fun z => by
      rw [z] at hA
      rw [show SlX.slH _ x _ dx _ x = some _ from upd_same] at hA
      cases hA
    have nD : A ≠ dx := fun z => by
      rw [z] at hA
      unfold SlX.slH at hA
      rw [upd_ne hne, upd_same] at hA
      cases hA
    show SlX.slH _ _ _ _ _ A = _
    rw [SlX.slH_ne nA nD]
    exact hA'
def spReqLoop (K : PySem.W.Frag) : Sp := fun vs H Q _ => ∃ (t : Addr) (rs : Rows), vs = [.ref t] ∧ LoopAt K H t rs ∧ Q .non H
theorem sc_require_loop : FnScope ["value"] ["value"] (defScope (top 52)) := ⟨rfl, rfl, rfl, by decide +kernel, rfl, by decide +kernel, by decide +kernel⟩
theorem ok_require_loop (T : Txt K mg)  : Cal P w K mg base (3) "require_loop" (spReqLoop K) := by
  obtain ⟨fd, F⟩ := T.f_require_loop
  refine cal_of T.g_require_loop F sc_require_loop (fun vs H Q E h => by first | (obtain ⟨_, rfl, _⟩ := h; rfl) | (obtain ⟨_, _, rfl, _⟩ := h; rfl) | (obtain ⟨_, _, _, rfl, _⟩ := h; rfl) | (obtain ⟨_, _, _, _, rfl, _⟩ := h; rfl) | (obtain ⟨_, _, _, _, _, rfl, _⟩ := h; rfl) | (obtain ⟨_, _, _, _, _, _, rfl, _⟩ := h; rfl) | (obtain ⟨_, _, _, _, _, _, _, rfl, _⟩ := h; rfl) | (obtain ⟨_, _, _, _, _, _, _, _, rfl, _⟩ := h; rfl)) (fun _ _ _ _ _ _ us hl => match us, hl with | [_], _ => rfl) (fun cdv A outer s H vs Q E hr h => ?_)
  obtain ⟨t, rs, rfl, ⟨dx, m, r, t2, hS, _⟩, q⟩ := h
  refine ⟨_, (pss_one (ps_if (pt_not (pt_val (pe_callB (SlX.call_isiSl (.ref (He.ga K "Loop"))) (by rfl) T.z_isinstance (by decide +kernel) (pa_cons (pv 0) (pa_cons (pe_glob (v := .ref _) (by rfl) T.g_Loop rfl) pa_nil))))) (pss_one (ps_never)) pss_nil)), ?_⟩
  exact ⟨_, rfl, t, _, dx, _, _, true, rfl, rfl, fun w h => h, hS, T.s_Loop, T.w_Loop, T.o_Loop, _, rfl, iteF q⟩
def spLoopTab (K : PySem.W.Frag) : Sp := fun vs H Q _ => ∃ (a : Addr) (rs : Rows), vs = [.ref a] ∧ LoopAt K H a rs ∧ ∀ t, TabAt K H t rs → Q (.ref t) H
theorem sc_Loop_table : FnScope ["self"] ["self"] (defScope (inClass (top 49) 2)) := ⟨rfl, rfl, rfl, by decide +kernel, rfl, by decide +kernel, by decide +kernel⟩
theorem ok_Loop_table (T : Txt K mg)  : FnR P w K mg base CX0 (2) (pgA K "Loop" "table") (spLoopTab K) := by
  obtain ⟨fd, F⟩ := T.f_Loop_table
  refine met_of F sc_Loop_table (fun vs H Q E h => by first | (obtain ⟨_, rfl, _⟩ := h; rfl) | (obtain ⟨_, _, rfl, _⟩ := h; rfl) | (obtain ⟨_, _, _, rfl, _⟩ := h; rfl) | (obtain ⟨_, _, _, _, rfl, _⟩ := h; rfl) | (obtain ⟨_, _, _, _, _, rfl, _⟩ := h; rfl) | (obtain ⟨_, _, _, _, _, _, rfl, _⟩ := h; rfl) | (obtain ⟨_, _, _, _, _, _, _, rfl, _⟩ := h; rfl) | (obtain ⟨_, _, _, _, _, _, _, _, rfl, _⟩ := h; rfl)) (fun _ _ _ _ _ _ us hl => match us, hl with | [_], _ => rfl) (fun cdv A outer s H vs Q E hr h => ?_)
  obtain ⟨a, rs, rfl, ⟨dx, m, r, t, hS, _, _, ht⟩, q⟩ := h
  refine ⟨_, (pss_one (ps_ret (peSl (K := K) rfl (pv 0)))), ?_⟩
  exact ⟨_, rfl, a, _, dx, _, _, _, .ref t, rfl, hS, T.s_Loop, T.l_Loop_own_table, rfl, q t ht⟩
def spLoopOrd (K : PySem.W.Frag) : Sp := fun vs H Q _ => ∃ (a : Addr) (rs : Rows), vs = [.ref a] ∧ LoopAt K H a rs ∧ Q (vn rs.length) H
theorem sc_Loop_order : FnScope ["self"] ["self"] (defScope (inClass (top 49) 3)) := ⟨rfl, rfl, rfl, by decide +kernel, rfl, by decide +kernel, by decide +kernel⟩
theorem ok_Loop_order (T : Txt K mg)  : FnR P w K mg base CX0 (2) (pgA K "Loop" "order") (spLoopOrd K) := by
  obtain ⟨fd, F⟩ := T.f_Loop_order
  refine met_of F sc_Loop_order (fun vs H Q E h => by first | (obtain ⟨_, rfl, _⟩ := h; rfl) | (obtain ⟨_, _, rfl, _⟩ := h; rfl) | (obtain ⟨_, _, _, rfl, _⟩ := h; rfl) | (obtain ⟨_, _, _, _, rfl, _⟩ := h; rfl) | (obtain ⟨_, _, _, _, _, rfl, _⟩ := h; rfl) | (obtain ⟨_, _, _, _, _, _, rfl, _⟩ := h; rfl) | (obtain ⟨_, _, _, _, _, _, _, rfl, _⟩ := h; rfl) | (obtain ⟨_, _, _, _, _, _, _, _, rfl, _⟩ := h; rfl)) (fun _ _ _ _ _ _ us hl => match us, hl with | [_], _ => rfl) (fun cdv A outer s H vs Q E hr h => ?_)
  obtain ⟨a, rs, rfl, ⟨dx, m, r, t, hS, hm, _, ht⟩, q⟩ := h
  refine ⟨_, (pss_one (ps_ret (pe_callB (lenK (K := K) rfl) (by rfl) T.z_len (by decide +kernel) (pa_cons (peSl (K := K) rfl (pv 0)) pa_nil)))), ?_⟩
  refine ⟨_, rfl, a, _, dx, _, _, _, .ref m, rfl, hS, T.s_Loop, T.l_Loop_own_names, rfl, m, _, rfl, .inr (SqT.of hm), ?_⟩
  rw [List.length_map, List.length_range]
  exact q
def spLoopOf (K : PySem.W.Frag) : Sp := fun vs H Q _ => ∃ (a : Addr) (rs : Rows) (i k : Nat) (x : List Nat), vs = [.ref a, vn i] ∧ LoopAt K H a rs ∧ Lat rs ∧ rs[i]? = some x ∧ ordO x = some k ∧ ∀ H', Same H H' → Q (vn k) H'
theorem sc_Loop_order_of : FnScope ["self", "x"] ["self", "x"] (defScope (inClass (top 49) 10)) := ⟨rfl, rfl, rfl, by decide +kernel, rfl, by decide +kernel, by decide +kernel⟩
theorem ok_Loop_order_of (T : Txt K mg) (c_require_name : Cal P w K mg base 5 "require_name" spReqSign) (c_round_from : Cal P w K mg base 6 "round_from" spRound) : FnR P w K mg base CX0 (7) (He.ma K (He.ga K "Loop") "order_of") (spLoopOf K) := by
  obtain ⟨fd, F⟩ := T.f_Loop_order_of
  refine met_of F sc_Loop_order_of (fun vs H Q E h => by first | (obtain ⟨_, rfl, _⟩ := h; rfl) | (obtain ⟨_, _, rfl, _⟩ := h; rfl) | (obtain ⟨_, _, _, rfl, _⟩ := h; rfl) | (obtain ⟨_, _, _, _, rfl, _⟩ := h; rfl) | (obtain ⟨_, _, _, _, _, rfl, _⟩ := h; rfl) | (obtain ⟨_, _, _, _, _, _, rfl, _⟩ := h; rfl) | (obtain ⟨_, _, _, _, _, _, _, rfl, _⟩ := h; rfl) | (obtain ⟨_, _, _, _, _, _, _, _, rfl, _⟩ := h; rfl)) (fun _ _ _ _ _ _ us hl => match us, hl with | [_, _], _ => rfl) (fun cdv A outer s H vs Q E hr h => ?_)
  obtain ⟨a, rs, i, k, x, rfl, ⟨dx, m, r, t, hS, hm, ⟨ps, ha, hE⟩, ht⟩, L, hx, hk, q⟩ := h
  have h12 := L.le
  have px := perm_lt (L.row x (List.mem_of_getElem? hx))
  have hi : i < rs.length := (List.getElem?_eq_some_iff.mp hx).1
  obtain ⟨p, hp, tp⟩ := tupR_get hE hx
  refine ⟨_, (pss_cons (ps_expr (pe_cal c_require_name (hr.mono (by decide)) (pa_cons (pe_callB (lenK (K := K) rfl) (by rfl) T.z_len (by decide +kernel) (pa_cons (peSl (K := K) rfl (pv 0)) pa_nil)) (pa_cons (pv 1) pa_nil))))
      (pss_one (ps_ret (pe_callB (lenK (K := K) rfl) (by rfl) T.z_len (by decide +kernel) (pa_cons (pe_cal c_round_from (hr.mono (by decide)) (pa_cons (pe_ix (ixT (K := K) rfl) (peSl (K := K) rfl (pv 0)) (pv 1) (fun _ _ => rfl)) (pa_cons (pe_int) pa_nil))) pa_nil))))), ?_⟩
  refine ⟨_, rfl, a, _, dx, _, _, _, .ref m, rfl, hS, T.s_Loop, T.l_Loop_own_names, rfl, m, _, rfl, .inr (SqT.of hm), _, rfl, rs.length, i, by rw [List.length_map, List.length_range]; rfl, hi, ?_⟩
  refine ⟨_, rfl, a, _, dx, _, _, _, .ref r, rfl, hS, T.s_Loop, T.l_Loop_own_rows, rfl, _, rfl, r, _, _, .ref p, rfl, rfl, SqT.of ha, hp, p, x, 0, k, rfl, tp, ?_, by omega, by omega, hk, fun p2 H' ys sm hys ly => ⟨p2, ys, rfl, .inr (SqT.of hys), ?_⟩⟩
  · intro y hy
    rw [px.1]
    exact px.2 y hy
  · rw [ly]
    exact q H' sm
def spLoopGrp (K : PySem.W.Frag) : Sp := fun vs H Q _ => ∃ (a : Addr) (rs : Rows), vs = [.ref a] ∧ LoopAt K H a rs ∧ Grp rs ∧ ∀ H', Same H H' → Q (.bl true) H'
theorem sc_Loop_is_group : FnScope ["self"] ["self"] (defScope (inClass (top 49) 11)) := ⟨rfl, rfl, rfl, by decide +kernel, rfl, by decide +kernel, by decide +kernel⟩
theorem ok_Loop_is_group (T : Txt K mg) (c_is_group_rows : Cal P w K mg base 5 "is_group_rows" spGrpRows) : FnR P w K mg base CX0 (6) (He.ma K (He.ga K "Loop") "is_group") (spLoopGrp K) := by
  obtain ⟨fd, F⟩ := T.f_Loop_is_group
  refine met_of F sc_Loop_is_group (fun vs H Q E h => by first | (obtain ⟨_, rfl, _⟩ := h; rfl) | (obtain ⟨_, _, rfl, _⟩ := h; rfl) | (obtain ⟨_, _, _, rfl, _⟩ := h; rfl) | (obtain ⟨_, _, _, _, rfl, _⟩ := h; rfl) | (obtain ⟨_, _, _, _, _, rfl, _⟩ := h; rfl) | (obtain ⟨_, _, _, _, _, _, rfl, _⟩ := h; rfl) | (obtain ⟨_, _, _, _, _, _, _, rfl, _⟩ := h; rfl) | (obtain ⟨_, _, _, _, _, _, _, _, rfl, _⟩ := h; rfl)) (fun _ _ _ _ _ _ us hl => match us, hl with | [_], _ => rfl) (fun cdv A outer s H vs Q E hr h => ?_)
  obtain ⟨a, rs, rfl, ⟨dx, m, r, t, hS, hm, hR, ht⟩, G, q⟩ := h
  refine ⟨_, (pss_one (ps_ret (pe_cal c_is_group_rows (hr.mono (by decide)) (pa_cons (peSl (K := K) rfl (pv 0)) pa_nil)))), ?_⟩
  exact ⟨_, rfl, a, _, dx, _, _, _, .ref r, rfl, hS, T.s_Loop, T.l_Loop_own_rows, rfl, r, rs, rfl, hR, G, fun H' sm => q H' sm⟩
def spReqGroup (K : PySem.W.Frag) : Sp := fun vs H Q _ => ∃ (a : Addr) (rs : Rows), vs = [.ref a] ∧ LoopAt K H a rs ∧ Grp rs ∧ ∀ H', Same H H' → Q .non H'
theorem sc_require_group : FnScope ["loop"] ["loop"] (defScope (top 55)) := ⟨rfl, rfl, rfl, by decide +kernel, rfl, by decide +kernel, by decide +kernel⟩
theorem ok_require_group (T : Txt K mg) (m_Loop_is_group : FnR P w K mg base CX0 6 (He.ma K (He.ga K "Loop") "is_group") (spLoopGrp K)) : Cal P w K mg base (7) "require_group" (spReqGroup K) := by
  obtain ⟨fd, F⟩ := T.f_require_group
  refine cal_of T.g_require_group F sc_require_group (fun vs H Q E h => by first | (obtain ⟨_, rfl, _⟩ := h; rfl) | (obtain ⟨_, _, rfl, _⟩ := h; rfl) | (obtain ⟨_, _, _, rfl, _⟩ := h; rfl) | (obtain ⟨_, _, _, _, rfl, _⟩ := h; rfl) | (obtain ⟨_, _, _, _, _, rfl, _⟩ := h; rfl) | (obtain ⟨_, _, _, _, _, _, rfl, _⟩ := h; rfl) | (obtain ⟨_, _, _, _, _, _, _, rfl, _⟩ := h; rfl) | (obtain ⟨_, _, _, _, _, _, _, _, rfl, _⟩ := h; rfl)) (fun _ _ _ _ _ _ us hl => match us, hl with | [_], _ => rfl) (fun cdv A outer s H vs Q E hr h => ?_)
  obtain ⟨a, rs, rfl, hL, G, q⟩ := h
  have hL' := hL
  obtain ⟨dx, m, r, t, hS, _⟩ := hL'
  refine ⟨_, (pss_one (ps_if (pt_not (pt_val (SlX.pe_methSl0 (pv 0) T.s_Loop T.m_Loop_is_group m_Loop_is_group (hr.mono (by decide)) pass0))) (pss_one (ps_never)) pss_nil)), ?_⟩
  exact ⟨_, rfl, a, dx, _, rfl, hS, a, rs, rfl, hL, G, fun H' sm => ⟨_, rfl, iteF (q H' sm)⟩⟩
def spIterL (K : PySem.W.Frag) : Nat → Sp := fun n vs H Q _ => ∃ (a : Addr) (rs : Rows), vs = [.ref a] ∧ LoopAt K H a rs ∧ ∀ it m, TupN H m (List.range rs.length) → H it = Option.none → n ≤ it → Q (.ref it) (upd H it (TupItO m it))
theorem sc_Loop_iter : FnScope ["self"] ["self"] (defScope (inClass (top 49) 15)) := ⟨rfl, rfl, rfl, by decide +kernel, rfl, by decide +kernel, by decide +kernel⟩
theorem ok_Loop_iter (T : Txt K mg) : FnN P w K mg base (3) (He.ma K (He.ga K "Loop") "__iter__") (spIterL K) := by
  obtain ⟨fd, F⟩ := T.f_Loop_iter
  refine metN_of F sc_Loop_iter (fun n vs H Q E h => by obtain ⟨_, _, rfl, _⟩ := h; rfl) (fun _ _ _ _ _ _ us hl => match us, hl with | [_], _ => rfl) (fun cdv A outer s H vs Q E hr h => ?_)
  obtain ⟨a, rs, rfl, ⟨dx, m, r, t, hS, hm, _, ht⟩, q⟩ := h
  refine ⟨_, (pss_one (ps_ret (pe_callB call_iterT (by rfl) T.z_iter (by decide +kernel) (pa_cons (peSl (K := K) rfl (pv 0)) pa_nil)))), ?_⟩
  exact ⟨_, rfl, a, _, dx, _, _, _, .ref m, rfl, hS, T.s_Loop, T.l_Loop_own_names, rfl, m, _, rfl, SqT.of hm, fun it hit hn => q it m hm hit hn⟩
theorem any_of {ys : List V} {n : Nat} {f : Nat → Bool} (h : ∀ (k : Nat) (y : V), ys[k]? = some y → y = V.bl (f k)) (l : ys.length = n) : ys = ((List.range n).map f).map V.bl := by
  refine List.ext_getElem? fun k => ?_
  cases e : ys[k]? with
  | none =>
    rw [List.getElem?_eq_none_iff] at e
    rw [eq_comm, List.getElem?_eq_none_iff, List.length_map, List.length_map, List.length_range]
    omega
  | some y =>
    have hk := (List.getElem?_eq_some_iff.mp e).1
    rw [h k y e, List.getElem?_map, List.getElem?_map, List.getElem?_range (by omega)]
    rfl
def spBarG (K : PySem.W.Frag) : Sp := fun vs H Q _ => ∃ (a : Addr) (rs : Rows), vs = [.ref a] ∧ LoopAt K H a rs ∧ Grp rs ∧ ∀ H', Same H H' → Q (.bl (barM rs)) H'
theorem sc_is_barred_group : FnScope ["loop", "share", "name"] ["loop"] (defScope (top 56)) := ⟨rfl, rfl, rfl, by decide +kernel, rfl, by decide +kernel, by decide +kernel⟩
theorem ok_is_barred_group (T : Txt K mg) (c_even_share : Cal P w K mg base 2 "even_share" spShare) (m_Loop_order : FnR P w K mg base CX0 2 (pgA K "Loop" "order") (spLoopOrd K)) (m_Loop_order_of : FnR P w K mg base CX0 7 (He.ma K (He.ga K "Loop") "order_of") (spLoopOf K)) (m_Loop_iter : FnN P w K mg base 3 (He.ma K (He.ga K "Loop") "__iter__") (spIterL K)) : Cal P w K mg base (9) "is_barred_group" (spBarG K) := by
  obtain ⟨fd, F⟩ := T.f_is_barred_group
  refine cal_of T.g_is_barred_group F sc_is_barred_group (fun vs H Q E h => by first | (obtain ⟨_, rfl, _⟩ := h; rfl) | (obtain ⟨_, _, rfl, _⟩ := h; rfl) | (obtain ⟨_, _, _, rfl, _⟩ := h; rfl) | (obtain ⟨_, _, _, _, rfl, _⟩ := h; rfl) | (obtain ⟨_, _, _, _, _, rfl, _⟩ := h; rfl) | (obtain ⟨_, _, _, _, _, _, rfl, _⟩ := h; rfl) | (obtain ⟨_, _, _, _, _, _, _, rfl, _⟩ := h; rfl) | (obtain ⟨_, _, _, _, _, _, _, _, rfl, _⟩ := h; rfl)) (fun _ _ _ _ _ _ us hl => match us, hl with | [_], _ => rfl) (fun cdv A outer s H vs Q E hr h => ?_)
  obtain ⟨a, rs, rfl, hL, G, q⟩ := h
  have h12 := G.le
  have hpos := G.pos
  have hL' := hL
  obtain ⟨dx, m, r, t, hS, _⟩ := hL'
  refine ⟨_, (pss_cons (ps_set (i := 1) sc_is_barred_group.nd rfl (Or.inr rfl) (pe_cal c_even_share (hr.mono (by decide)) (pa_cons (SlX.pe_propSl (E := E0) (pv 0) T.s_Loop T.p_Loop_order.at_ T.p_Loop_order.get T.p_Loop_order.tk T.p_Loop_order.rc m_Loop_order (hr.mono (by decide)) (fun _ _ _ _ h => h.elim)) pa_nil)))
      (pss_one (ps_ret (pe_and (pe_cmpR op_gt (pv 1) (pe_int) (nomark _)) (pe_one (pe_callB (cr_any rfl) (by rfl) T.z_any (by decide +kernel) (pa_cons (pe_lc (own := [("name", 2)]) rfl sc_is_barred_group.nd (pi_own (pv 0) T.m_Loop_iter m_Loop_iter (hr.mono (by decide))) (blkOk_by (own := [("name", 2)]) (N := ["loop", "share", "name"]) (sc := defScope (top 56)) (by first | decide +kernel | kernel_rfl | rfl)) (fun _ _ _ _ _ => (pg_name (i := 2) sc_is_barred_group.nd rfl (Or.inl rfl))) (fun _ _ _ _ _ => pts_nil) (fun _ _ _ _ _ => (pe_cmpR op_eq (SlX.pe_methSl (pv 0) T.s_Loop T.m_Loop_order_of m_Loop_order_of (hr.mono (by decide)) pass0 (pa_cons (pv 2) pa_nil)) (pv 1) (nomark _)))) pa_nil))))))), ?_⟩
  refine ⟨_, rfl, a, dx, _, rfl, hS, a, rs, rfl, hL, rs.length, rfl, hpos, by omega, ?_⟩
  refine ⟨_, rfl, _, _, rfl, rfl, _, rfl, ?_⟩
  by_cases hb : 1 < share rs.length
  · rw [decide_eq_true (by omega)]
    refine iteT ?_
    refine ⟨_, rfl, a, dx, _, rfl, hS, fun n => ⟨a, rs, rfl, hL, fun it m hm hit hn => ⟨it, m, rfl, upd_same, hn, fun D hD => ?_⟩⟩⟩
    rw [ItX.dropH_upd hit] at hD ⊢
    refine lc_gen walk_tup (by rw [List.length_map, List.length_range]; omega) hD (fun H' sm => SqT.of (sm _ _ hm)) (fun _ k y => y = .bl (decide (ordR (rs.getD k []) = share rs.length))) (fun _ _ _ _ _ h => h) (fun k x H0 H' acc Kf hk sm hacc hy hK => ?_) (fun ys H' sm hy ly hr' => ?_)
    · obtain ⟨rfl, hx⟩ := hy
      rw [List.length_map, List.length_range] at hk
      rw [List.getElem?_map, List.getElem?_range hk] at hx
      cases hx
      obtain ⟨o, ho⟩ := G.ord _ (List.getElem_mem hk)
      refine ⟨rfl, _, rfl, a, dx, _, rfl, Slt.mono hS sm, _, rfl, a, rs, k, o, rs[k], rfl, hL.mono sm, G.toLat, List.getElem?_eq_getElem hk, ho, fun H4 s4 => ?_⟩
      refine ⟨_, rfl, rfl, hK _ _ s4 ?_⟩
      rw [dec_vn, getD_of (List.getElem?_eq_getElem hk)]
      unfold ordR
      rw [ho]
      rfl
    · rw [List.length_map, List.length_range] at ly
      refine ⟨D, _, rfl, SqL.of (by rw [hy, any_of hr' ly]), ?_⟩
      have e : ((List.range rs.length).map fun k => decide (ordR (rs.getD k []) = share rs.length)).any id = barM rs := by
        unfold barM
        rw [decide_eq_true hb, Bool.true_and, map_range_get rs (fun r => decide (ordR r = share rs.length)), List.any_map]
        · congr 1
        · intro j r e
          rw [getD_of e]
      rw [e]
      exact q H' sm
  · rw [decide_eq_false (by omega)]
    refine iteF ?_
    have e : barM rs = false := by unfold barM; rw [decide_eq_false hb]; rfl
    rw [e] at q
    exact q H sRefl
theorem sc_is_barred : FnScope ["loop"] ["loop"] (defScope (top 57)) := ⟨rfl, rfl, rfl, by decide +kernel, rfl, by decide +kernel, by decide +kernel⟩
theorem ok_is_barred (T : Txt K mg) (c_require_loop : Cal P w K mg base 3 "require_loop" (spReqLoop K)) (c_require_group : Cal P w K mg base 7 "require_group" (spReqGroup K)) (c_is_barred_group : Cal P w K mg base 9 "is_barred_group" (spBarG K)) : Cal P w K mg base (10) "is_barred" (spBarG K) := by
  obtain ⟨fd, F⟩ := T.f_is_barred
  refine cal_of T.g_is_barred F sc_is_barred (fun vs H Q E h => by first | (obtain ⟨_, rfl, _⟩ := h; rfl) | (obtain ⟨_, _, rfl, _⟩ := h; rfl) | (obtain ⟨_, _, _, rfl, _⟩ := h; rfl) | (obtain ⟨_, _, _, _, rfl, _⟩ := h; rfl) | (obtain ⟨_, _, _, _, _, rfl, _⟩ := h; rfl) | (obtain ⟨_, _, _, _, _, _, rfl, _⟩ := h; rfl) | (obtain ⟨_, _, _, _, _, _, _, rfl, _⟩ := h; rfl) | (obtain ⟨_, _, _, _, _, _, _, _, rfl, _⟩ := h; rfl)) (fun _ _ _ _ _ _ us hl => match us, hl with | [_], _ => rfl) (fun cdv A outer s H vs Q E hr h => ?_)
  obtain ⟨a, rs, rfl, hL, G, q⟩ := h
  refine ⟨_, (pss_cons (ps_expr (pe_cal c_require_loop (hr.mono (by decide)) (pa_cons (pv 0) pa_nil)))
      (pss_cons (ps_expr (pe_cal c_require_group (hr.mono (by decide)) (pa_cons (pv 0) pa_nil)))
      (pss_one (ps_ret (pe_cal c_is_barred_group (hr.mono (by decide)) (pa_cons (pv 0) pa_nil)))))), ?_⟩
  refine ⟨_, rfl, a, rs, rfl, hL, ?_⟩
  refine ⟨_, rfl, a, rs, rfl, hL, G, fun H1 s1 => ?_⟩
  exact ⟨_, rfl, a, rs, rfl, hL.mono s1, G, fun H2 s2 => q _ fun b u e => s2 _ _ (s1 _ _ e)⟩
def spWeights : Sp := fun vs H Q _ => ∃ n : Nat, vs = [vn n] ∧ n ≤ 60 ∧ ∀ p H', Same H H' → H p = none → LstN H' p ((List.range (n + 1)).map fun i => 2 ^ i) → Q (.ref p) H'
theorem sc_weights_of : FnScope ["order", "found", "turn"] ["order"] (defScope (top 34)) := ⟨rfl, rfl, rfl, by decide +kernel, rfl, by decide +kernel, by decide +kernel⟩
theorem ok_weights_of (T : Txt K mg)  : Cal P w K mg base (2) "weights_of" (spWeights) := by
  obtain ⟨fd, F⟩ := T.f_weights_of
  refine cal_of T.g_weights_of F sc_weights_of (fun vs H Q E h => by first | (obtain ⟨_, rfl, _⟩ := h; rfl) | (obtain ⟨_, _, rfl, _⟩ := h; rfl) | (obtain ⟨_, _, _, rfl, _⟩ := h; rfl) | (obtain ⟨_, _, _, _, rfl, _⟩ := h; rfl) | (obtain ⟨_, _, _, _, _, rfl, _⟩ := h; rfl) | (obtain ⟨_, _, _, _, _, _, rfl, _⟩ := h; rfl) | (obtain ⟨_, _, _, _, _, _, _, rfl, _⟩ := h; rfl) | (obtain ⟨_, _, _, _, _, _, _, _, rfl, _⟩ := h; rfl)) (fun _ _ _ _ _ _ us hl => match us, hl with | [_], _ => rfl) (fun cdv A outer s H vs Q E hr h => ?_)
  obtain ⟨n, rfl, hn, q⟩ := h
  refine ⟨_, (pss_cons (ps_set (i := 1) sc_weights_of.nd rfl (Or.inl rfl) (pe_lst (pa_cons (pe_int) pa_nil)))
      (pss_cons (ps_for PassesOwn.never rfl (pi_range1 (by rfl) T.z_range (pa_cons (pv 0) pa_nil)) (pg_name (i := 2) sc_weights_of.nd rfl (Or.inl rfl)) (pss_one (ps_expr (pe_bm PySem.F.plainAttrs_list PySem.F.slot_list_append PySem.F.type_list_append mt_append (pv 1) (pa_cons (pe_op op_mul (pe_int) (pe_ix (ixL (K := K) rfl) (pv 1) (pe_un un_neg (pe_int)) (fun _ _ => rfl))) pa_nil)))))
      (pss_one (ps_ret (pv 1))))), ?_⟩
  refine ⟨(by decide : 1 ≤ sizeLine), fun D hD => ?_⟩
  refine ⟨_, rfl, _, rfl, by omega, by omega, ?_⟩
  refine for_it walk_range (fun i σ H' => (∃ x, σ = [some (vn n), some (.ref D), x]) ∧ Same H H' ∧ LstN H' D ((List.range (i + 1)).map fun i => 2 ^ i)) ⟨⟨_, rfl⟩, same_upd hD, upd_same⟩ (fun _ _ _ _ _ => trivial) (fun i x σ H1 H2 hi p y => ?_) (fun σ H' p => ?_)
  · obtain ⟨⟨_, rfl⟩, sm, hl⟩ := p
    obtain ⟨rfl, rfl⟩ := y
    have e : ((List.range (i + 1)).map fun i => 2 ^ i).map vn = ((List.range i).map fun i => 2 ^ i).map vn ++ [vn (2 ^ i)] := by rw [List.range_succ]; simp
    have hl' : H2 D = some (.lst (((List.range i).map fun i => 2 ^ i).map vn ++ [vn (2 ^ i)])) := by rw [← e]; exact hl
    have hz : sizeLine = 16777216 := sizeLine_eq
    rw [Int.toNat_natCast] at hi
    refine ⟨_, rfl, tyL hl, _, rfl, _, rfl, D, _, _, vn (2 ^ i), rfl, rfl, SqL.of hl', atI_last _ _, _, _, rfl, rfl, .inl ⟨by omega, by omega⟩, D, _, _, rfl, rfl, hl, by rw [List.length_map, List.length_map, List.length_range]; omega, ⟨_, rfl⟩, Same.mut sm hD, ?_⟩
    show upd _ _ _ _ = _
    rw [upd_same, List.range_succ (n := i + 1), List.map_append, List.map_append]
    refine congrArg some (congrArg HO.lst (congrArg _ ?_))
    show [V.int (2 * ((2 ^ i : Nat) : Int))] = [V.int ((2 ^ (i + 1) : Nat) : Int)]
    rw [Nat.pow_succ]
    have : (2 * ((2 ^ i : Nat) : Int)) = ((2 ^ i * 2 : Nat) : Int) := by omega
    rw [this]
  · obtain ⟨⟨_, rfl⟩, sm, hl⟩ := p
    rw [Int.toNat_natCast] at hl
    exact ⟨_, rfl, q D H' sm hD hl⟩
end
end K61

set_option Elab.async false
set_option maxRecDepth 100000
set_option maxHeartbeats 4000000
namespace K61
open PySem PySem.Spec PyProof.Rows L2
section
variable {P : Program} {w : World} {K : PySem.W.Frag} {mg : Str → Option Value} {base : Heap}
/-- vs marks a transversal of rs -/
def CrsV (rs : Rows) (vs : List V) : Prop := ∃ m : List Nat, vs = m.map vn ∧ Crs rs m
theorem Ask.mono {H H' : Hp} {v : V} {xs : List V} (h : Ask K H v xs) (s : Same H H') : Ask K H' v xs := by
  cases h with
  | tup h1 h2 h3 => exact .tup (s _ _ h1) h2 h3
  | lst h1 => exact .lst (s _ _ h1)
  | non => exact .non
  | int i => exact .int i
theorem Ask.isTup {H : Hp} {v : V} {l : List Nat} (h : Ask K H v (l.map vn)) : ∃ a, v = .ref a ∧ TupN H a l ∧ l.length ≤ 63 := by
  generalize e : l.map vn = xs at h
  cases h with
  | @tup a _ h1 h2 h3 => subst e; exact ⟨a, rfl, h1, by simpa using h3⟩
  | lst h1 => cases l <;> simp at e
  | non => cases l <;> simp at e
  | int i => cases l <;> simp at e
theorem img_eq (rs : Rows) (m : List Nat) (h : m.length = rs.length) : (List.range rs.length).map (fun k => (rs.getD k []).getD (m.getD k 0) 0) = img rs m := by
  unfold img
  refine List.ext_getElem? fun k => ?_
  by_cases hk : k < rs.length
  · rw [List.getElem?_map, List.getElem?_range hk, List.getElem?_map, List.getElem?_eq_getElem (l := rs.zip m) (by rw [List.length_zip]; omega), List.getElem_zip]
    show some ((rs.getD k []).getD (m.getD k 0) 0) = some ((rs[k]).getD (m[k]) 0)
    rw [getD_of (List.getElem?_eq_getElem hk), getD_of (l := m) (List.getElem?_eq_getElem (by omega))]
  · rw [List.getElem?_eq_none (by simpa using hk), List.getElem?_eq_none (by simp; omega)]
def spCross (K : PySem.W.Frag) : Sp := fun vs H Q _ => ∃ (a : Addr) (rs : Rows) (v : V) (xs : List V), vs = [.ref a, v] ∧ TupR H a rs ∧ Lat rs ∧ Ask K H v xs ∧ ∀ (b : Bool) H', (b = true ↔ CrsV rs xs) → Same H H' → Q (.bl b) H'
theorem sc_is_cross : FnScope ["rows", "value", "row", "column"] ["rows", "value"] (defScope (top 35)) := ⟨rfl, rfl, rfl, by decide +kernel, rfl, by decide +kernel, by decide +kernel⟩
theorem ok_is_cross (T : Txt K mg) (c_is_renaming_of : Cal P w K mg base 4 "is_renaming_of" (spRen K)) : Cal P w K mg base (5) "is_cross" (spCross K) := by
  obtain ⟨fd, F⟩ := T.f_is_cross
  refine cal_of T.g_is_cross F sc_is_cross (fun vs H Q E h => by first | (obtain ⟨_, rfl, _⟩ := h; rfl) | (obtain ⟨_, _, rfl, _⟩ := h; rfl) | (obtain ⟨_, _, _, rfl, _⟩ := h; rfl) | (obtain ⟨_, _, _, _, rfl, _⟩ := h; rfl) | (obtain ⟨_, _, _, _, _, rfl, _⟩ := h; rfl) | (obtain ⟨_, _, _, _, _, _, rfl, _⟩ := h; rfl) | (obtain ⟨_, _, _, _, _, _, _, rfl, _⟩ := h; rfl) | (obtain ⟨_, _, _, _, _, _, _, _, rfl, _⟩ := h; rfl)) (fun _ _ _ _ _ _ us hl => match us, hl with | [_, _], _ => rfl) (fun cdv A outer s H vs Q E hr h => ?_)
  obtain ⟨a, rs, v, xs, rfl, ⟨ps, ha, hE⟩, L, hA, q⟩ := h
  have h12 := L.le
  have lp := hE.length
  refine ⟨_, (pss_cons (ps_if (pt_not (pt_val (pe_cal c_is_renaming_of (hr.mono (by decide)) (pa_cons (pe_callB (lenK (K := K) rfl) (by rfl) T.z_len (by decide +kernel) (pa_cons (pv 0) pa_nil)) (pa_cons (pv 1) pa_nil))))) (pss_one (ps_ret (pe_bl))) pss_nil)
      (pss_one (ps_ret (pe_cmpR op_eq (pe_callB call_lenS (by rfl) T.z_len (by decide +kernel) (pa_cons (pe_scI (own := [("row", 2), ("column", 3)]) rfl sc_is_cross.nd (RZ.pi_zipA (by rfl) T.z_zip (pa_cons (pv 0) (pa_cons (pv 1) pa_nil))) (blkOk_by (own := [("row", 2), ("column", 3)]) (N := ["rows", "value", "row", "column"]) (sc := defScope (top 35)) (by first | decide +kernel | kernel_rfl | rfl)) (fun _ _ _ _ _ => (pgTup (K := K) (n := 2) rfl rfl (pgs_cons (pg_name (i := 2) sc_is_cross.nd rfl (Or.inl rfl)) (pgs_cons (pg_name (i := 3) sc_is_cross.nd rfl (Or.inl rfl)) pgs_nil)))) (fun _ _ _ _ _ => pts_nil) (fun _ _ _ _ _ => (pe_ix (ixT (K := K) rfl) (pv 2) (pv 3) (fun _ _ => rfl)))) pa_nil)) (pe_callB (lenK (K := K) rfl) (by rfl) T.z_len (by decide +kernel) (pa_cons (pv 0) pa_nil)) (nomark _))))), ?_⟩
  refine ⟨_, rfl, a, _, rfl, .inr (SqT.of ha), _, rfl, rs.length, v, xs, by rw [List.length_map, lp]; rfl, by omega, hA, fun b H1 hb s1 => ⟨_, rfl, ?_⟩⟩
  cases b with
  | false =>
    refine iteT (q false H1 ?_ s1)
    simp
    rintro ⟨m, e, c⟩
    have := hb.mpr ⟨m, e, c.1⟩
    cases this
  | true =>
    refine iteF ?_
    obtain ⟨m, rfl, hp⟩ := hb.mp rfl
    obtain ⟨c, rfl, hc, _⟩ := hA.isTup
    have pm := perm_lt hp
    have hc1 := hc.mono s1
    have ha1 := s1 _ _ ha
    have hE1 := eachM hE s1
    refine ⟨_, rfl, _, rfl, a, c, _, _, rfl, .inr ⟨SqT.of ha1, SqT.of hc1, fun D hD => ?_⟩⟩
    refine sc_gen (walk_zipT (n := rs.length) (by rw [List.length_map, List.length_map]; omega)) (by omega) hD (fun H' sm => ⟨SqT.of (sm _ _ ha1), SqT.of (hc1.mono sm)⟩) (fun k => (((rs.getD k []).getD (m.getD k 0) 0 : Nat) : Int)) (fun k x H0 H' Kf hk sm hy hK => ?_) (fun S N H' sm hS hN => ?_)
    · obtain ⟨T, x1, x2, rfl, hT, rfl, e1, e2⟩ := hy
      obtain ⟨q1, r, rfl, hr1, t1, mr⟩ := eachSq (K := K) hE1 e1
      have e3 : (m.map vn)[k]? = some x2 := e2
      rw [List.getElem?_map, List.getElem?_eq_getElem (by omega)] at e3
      cases e3
      have s2 := same_upd (o := .tup [V.ref q1, vn (m[k]'(by omega))]) hT
      have pr := perm_lt (L.row r mr)
      have hlt := pm.2 _ (List.getElem_mem (show k < m.length by omega))
      refine ⟨T, _, rfl, SqT.of upd_same, rfl, _, _, rfl, _, _, rfl, rfl, ?_⟩
      refine ⟨rfl, _, rfl, _, rfl, q1, _, _, _, rfl, rfl, SqT.of ((t1.mono sm).mono s2), atN (by omega), ?_⟩
      rw [getD_of hr1, getD_of (l := m) (List.getElem?_eq_getElem (show k < m.length by omega))] at hK
      exact hK _ s2
    · refine ⟨D, S, N, rfl, hS, _, rfl, a, _, rfl, .inr (SqT.of (sm _ _ ha1)), rfl, q _ _ ?_ fun b u e => sm _ _ (s1 _ _ e)⟩
      rw [List.length_map, lp, dec_vn, decide_eq_true_iff, hN]
      have e : (List.range rs.length).map (fun k => (((rs.getD k []).getD (m.getD k 0) 0 : Nat) : Int)) = (img rs m).map fun (i : Nat) => (i : Int) := by
        rw [← img_eq rs m pm.1, List.map_map]
        rfl
      rw [e]
      constructor
      · exact fun z => ⟨m, rfl, hp, nodup_cast.mp z⟩
      · rintro ⟨m', e', c'⟩
        have := vns_inj e'
        subst this
        exact nodup_cast.mpr c'.2
def spCrossT (K : PySem.W.Frag) : Sp := fun vs H Q _ => ∃ (a : Addr) (rs : Rows) (v : V) (xs : List V), vs = [.ref a, v] ∧ TabAt K H a rs ∧ Lat rs ∧ Ask K H v xs ∧ ∀ (b : Bool) H', (b = true ↔ CrsV rs xs) → Same H H' → Q (.bl b) H'
theorem sc_is_transversal : FnScope ["table", "value"] ["table", "value"] (defScope (top 39)) := ⟨rfl, rfl, rfl, by decide +kernel, rfl, by decide +kernel, by decide +kernel⟩
theorem ok_is_transversal (T : Txt K mg) (c_is_cross : Cal P w K mg base 5 "is_cross" (spCross K)) (c_require_table : Cal P w K mg base 3 "require_table" (spReqTable K)) : Cal P w K mg base (6) "is_transversal" (spCrossT K) := by
  obtain ⟨fd, F⟩ := T.f_is_transversal
  refine cal_of T.g_is_transversal F sc_is_transversal (fun vs H Q E h => by first | (obtain ⟨_, rfl, _⟩ := h; rfl) | (obtain ⟨_, _, rfl, _⟩ := h; rfl) | (obtain ⟨_, _, _, rfl, _⟩ := h; rfl) | (obtain ⟨_, _, _, _, rfl, _⟩ := h; rfl) | (obtain ⟨_, _, _, _, _, rfl, _⟩ := h; rfl) | (obtain ⟨_, _, _, _, _, _, rfl, _⟩ := h; rfl) | (obtain ⟨_, _, _, _, _, _, _, rfl, _⟩ := h; rfl) | (obtain ⟨_, _, _, _, _, _, _, _, rfl, _⟩ := h; rfl)) (fun _ _ _ _ _ _ us hl => match us, hl with | [_, _], _ => rfl) (fun cdv A outer s H vs Q E hr h => ?_)
  obtain ⟨a, rs, v, xs, rfl, hT, L, hA, q⟩ := h
  have hT' := hT
  obtain ⟨dx, p1, p2, r, hS, hR⟩ := hT'
  refine ⟨_, (pss_cons (ps_expr (pe_cal c_require_table (hr.mono (by decide)) (pa_cons (pv 0) pa_nil)))
      (pss_one (ps_ret (pe_cal c_is_cross (hr.mono (by decide)) (pa_cons (peSl (K := K) rfl (pv 0)) (pa_cons (pv 1) pa_nil)))))), ?_⟩
  refine ⟨_, rfl, a, rs, rfl, hT, ?_⟩
  exact ⟨_, rfl, a, _, dx, _, _, _, .ref r, rfl, hS, T.s_Table, T.l_Table_own_rows, rfl, _, rfl, r, rs, v, xs, rfl, hR, L, hA, q⟩
def spCrossL (K : PySem.W.Frag) : Sp := fun vs H Q _ => ∃ (a : Addr) (rs : Rows) (v : V) (xs : List V), vs = [.ref a, v] ∧ LoopAt K H a rs ∧ Lat rs ∧ Ask K H v xs ∧ ∀ (b : Bool) H', (b = true ↔ CrsV rs xs) → Same H H' → Q (.bl b) H'
theorem sc_is_complete_mapping : FnScope ["loop", "value"] ["loop", "value"] (defScope (top 60)) := ⟨rfl, rfl, rfl, by decide +kernel, rfl, by decide +kernel, by decide +kernel⟩
theorem ok_is_complete_mapping (T : Txt K mg) (c_is_cross : Cal P w K mg base 5 "is_cross" (spCross K)) (c_require_loop : Cal P w K mg base 3 "require_loop" (spReqLoop K)) (m_Loop_table : FnR P w K mg base CX0 2 (pgA K "Loop" "table") (spLoopTab K)) : Cal P w K mg base (6) "is_complete_mapping" (spCrossL K) := by
  obtain ⟨fd, F⟩ := T.f_is_complete_mapping
  refine cal_of T.g_is_complete_mapping F sc_is_complete_mapping (fun vs H Q E h => by first | (obtain ⟨_, rfl, _⟩ := h; rfl) | (obtain ⟨_, _, rfl, _⟩ := h; rfl) | (obtain ⟨_, _, _, rfl, _⟩ := h; rfl) | (obtain ⟨_, _, _, _, rfl, _⟩ := h; rfl) | (obtain ⟨_, _, _, _, _, rfl, _⟩ := h; rfl) | (obtain ⟨_, _, _, _, _, _, rfl, _⟩ := h; rfl) | (obtain ⟨_, _, _, _, _, _, _, rfl, _⟩ := h; rfl) | (obtain ⟨_, _, _, _, _, _, _, _, rfl, _⟩ := h; rfl)) (fun _ _ _ _ _ _ us hl => match us, hl with | [_, _], _ => rfl) (fun cdv A outer s H vs Q E hr h => ?_)
  obtain ⟨a, rs, v, xs, rfl, hT, L, hA, q⟩ := h
  have hT' := hT
  obtain ⟨dx, m, r, t, hS, _⟩ := hT'
  refine ⟨_, (pss_cons (ps_expr (pe_cal c_require_loop (hr.mono (by decide)) (pa_cons (pv 0) pa_nil)))
      (pss_one (ps_ret (pe_cal c_is_cross (hr.mono (by decide)) (pa_cons (peSl (K := K) rfl (SlX.pe_propSl (E := E0) (pv 0) T.s_Loop T.p_Loop_table.at_ T.p_Loop_table.get T.p_Loop_table.tk T.p_Loop_table.rc m_Loop_table (hr.mono (by decide)) (fun _ _ _ _ h => h.elim))) (pa_cons (pv 1) pa_nil)))))), ?_⟩
  refine ⟨_, rfl, a, rs, rfl, hT, ?_⟩
  refine ⟨_, rfl, a, dx, _, rfl, hS, a, rs, rfl, hT, fun t2 ht2 => ?_⟩
  obtain ⟨d2, p1, p2, r2, hS2, hR2⟩ := ht2
  exact ⟨t2, _, d2, _, _, _, .ref r2, rfl, hS2, T.s_Table, T.l_Table_own_rows, rfl, _, rfl, r2, rs, v, xs, rfl, hR2, L, hA, q⟩
end
end K61

set_option Elab.async false
set_option maxRecDepth 100000
set_option maxHeartbeats 4000000
namespace K61
open PySem PySem.Spec PyProof.Rows L2
section
variable {P : Program} {w : World} {K : PySem.W.Frag} {mg : Str → Option Value} {base : Heap}
def spSearch (K : PySem.W.Frag) : Sp := fun vs H Q _ => ∃ (x dx : Addr) (H0 : Hp) (a : Addr) (rs : Rows), vs = [.ref x, .ref a] ∧ H = upd (upd H0 dx (.own x)) x (.ins (He.ga K "Search") dx []) ∧ H0 x = none ∧ H0 dx = none ∧ dx ≠ x ∧
  TupR H0 a rs ∧ rs.length ≤ 12 ∧ ∀ H' dd, Same H0 H' → H0 dd = none → SearchAt K H' x dd rs → H' dd = some (.dT []) → Q .non H'
theorem sc_Search_init : FnScope ["self", "rows"] ["self", "rows"] (defScope (inClass (top 58) 1)) := ⟨rfl, rfl, rfl, by decide +kernel, rfl, by decide +kernel, by decide +kernel⟩
theorem ok_Search_init (T : Txt K mg) (c_weights_of : Cal P w K mg base 2 "weights_of" spWeights) : FnR P w K mg base CX0 (5) (He.ma K (He.ga K "Search") "__init__") (spSearch K) := by
  obtain ⟨fd, F⟩ := T.f_Search_init
  refine met_of F sc_Search_init (fun vs H Q E h => by first | (obtain ⟨_, rfl, _⟩ := h; rfl) | (obtain ⟨_, _, rfl, _⟩ := h; rfl) | (obtain ⟨_, _, _, rfl, _⟩ := h; rfl) | (obtain ⟨_, _, _, _, rfl, _⟩ := h; rfl) | (obtain ⟨_, _, _, _, _, rfl, _⟩ := h; rfl) | (obtain ⟨_, _, _, _, _, _, rfl, _⟩ := h; rfl) | (obtain ⟨_, _, _, _, _, _, _, rfl, _⟩ := h; rfl) | (obtain ⟨_, _, _, _, _, _, _, _, rfl, _⟩ := h; rfl)) (fun _ _ _ _ _ _ us hl => match us, hl with | [_, _], _ => rfl) (fun cdv A outer s H vs Q E hr h => ?_)
  obtain ⟨x, dx, H0, a, rs, rfl, rfl, hx, hdx, hne, hT, h12, q⟩ := h
  have lp0 := hT
  obtain ⟨ps, ha, hE⟩ := lp0
  have lp := hE.length
  refine ⟨_, (pss_cons (SlX.ps_sl (pv 0) (pe_dnewT))
      (pss_cons (SlX.ps_sl (pv 0) (pv 1))
      (pss_one (SlX.ps_sl (pv 0) (pe_cal c_weights_of (hr.mono (by decide)) (pa_cons (pe_callB (lenK (K := K) rfl) (by rfl) T.z_len (by decide +kernel) (pa_cons (pv 1) pa_nil)) pa_nil)))))), ?_⟩
  have s0 : Same H0 (upd (upd H0 dx (.own x)) x (.ins (He.ga K "Search") dx [])) := same_mk hx hdx
  refine fun dd hdd => ?_
  have n1 : dd ≠ x := fun z => by rw [z, upd_same] at hdd; cases hdd
  have n2 : dd ≠ dx := fun z => by rw [z, upd_ne hne, upd_same] at hdd; cases hdd
  have hd0 : H0 dd = none := by rw [upd_ne n1, upd_ne n2] at hdd; exact hdd
  have s1 := same_upd (o := .dT []) hdd
  have s1' : Same H0 (upd (upd (upd H0 dx (.own x)) x (.ins (He.ga K "Search") dx [])) dd (.dT [])) := fun b u e => s1 _ _ (s0 _ _ e)
  have k1 : SlX.Slt (upd (upd (upd H0 dx (.own x)) x (.ins (He.ga K "Search") dx [])) dd (.dT [])) x (He.ga K "Search") dx [] := .inl ⟨s1 _ _ upd_same, rfl⟩
  have d1 : (upd (upd (upd H0 dx (.own x)) x (.ins (He.ga K "Search") dx [])) dd (.dT [])) dd = some (.dT []) := upd_same
  generalize upd (upd (upd H0 dx (.own x)) x (.ins (He.ga K "Search") dx [])) dd (.dT []) = H1 at s1' k1 d1
  refine ⟨_, rfl, x, _, dx, _, _, _, rfl, k1, T.s_Search, T.l_Search_own_dead, ?_⟩
  have s2 : Same H0 (SlX.slH H1 x (He.ga K "Search") dx [some (.ref dd)]) := Same.sl s1' hx hdx
  have k2 : SlX.Slt (SlX.slH H1 x (He.ga K "Search") dx [some (.ref dd)]) x (He.ga K "Search") dx [some (.ref dd)] := SlX.slH_slt hne
  have d2 : SlX.slH H1 x (He.ga K "Search") dx [some (.ref dd)] dd = some (.dT []) := by rw [SlX.slH_ne n1 n2]; exact d1
  refine ⟨_, rfl, _, rfl, x, _, dx, _, _, _, rfl, k2, T.s_Search, T.l_Search_own_rows, ?_⟩
  have s3 : Same H0 (SlX.slH (SlX.slH H1 x (He.ga K "Search") dx [some (.ref dd)]) x (He.ga K "Search") dx [some (.ref dd), some (.ref a)]) := Same.sl s2 hx hdx
  have k3 : SlX.Slt (SlX.slH (SlX.slH H1 x (He.ga K "Search") dx [some (.ref dd)]) x (He.ga K "Search") dx [some (.ref dd), some (.ref a)]) x (He.ga K "Search") dx [some (.ref dd), some (.ref a)] := SlX.slH_slt hne
  have d3 : SlX.slH (SlX.slH H1 x (He.ga K "Search") dx [some (.ref dd)]) x (He.ga K "Search") dx [some (.ref dd), some (.ref a)] dd = some (.dT []) := by rw [SlX.slH_ne n1 n2]; exact d2
  refine ⟨_, rfl, a, _, rfl, .inr (SqT.of (s3 _ _ ha)), rs.length, by rw [List.length_map, lp]; rfl, by omega, fun wt H4 s4 hwt lw => ?_⟩
  refine ⟨_, rfl, x, _, dx, _, _, _, rfl, Slt.mono k3 s4, T.s_Search, T.l_Search_own_weights, ?_⟩
  have s4' : Same H0 H4 := fun b u e => s4 _ _ (s3 _ _ e)
  have s5 : Same H0 (SlX.slH H4 x (He.ga K "Search") dx [some (.ref dd), some (.ref a), some (.ref wt)]) := Same.sl s4' hx hdx
  have n3 : wt ≠ x := fun z => by rw [z] at hwt; rw [show SlX.slH _ x _ dx _ x = some _ from upd_same] at hwt; cases hwt
  have n4 : wt ≠ dx := fun z => by rw [z] at hwt; unfold SlX.slH at hwt; rw [upd_ne hne, upd_same] at hwt; cases hwt
  refine q _ dd s5 hd0 ⟨dx, a, wt, SlX.slH_slt hne, hT.mono s5, ?_⟩ ?_
  · show SlX.slH _ _ _ _ _ _ = _
    rw [SlX.slH_ne n3 n4]
    exact lw
  · rw [SlX.slH_ne n1 n2]
    exact s4 _ _ d3
/-- one goes on from the used columns and signs, d rows are left -/
def spAhead (K : PySem.W.Frag) (d : Nat) : Sp := fun vs H Q _ => ∃ (x dd : Addr) (rs : Rows) (kvs : List (List Key × V)) (C S : List Nat), vs = [.ref x, vn C.length, vn (msk C), vn (msk S)] ∧ SearchAt K H x dd rs ∧ H dd = some (.dT kvs) ∧ Lat rs ∧ DeadOk rs.length rs kvs ∧
  Used rs.length C S ∧ C.length + d = rs.length ∧ ∀ res H' kvs', SameX dd H H' → H' dd = some (.dT kvs') → DeadOk rs.length rs kvs' →
    ((res = .non ∧ ∀ l, ¬ ExtR rs.length (rs.drop C.length) C S l) ∨ ∃ p l, res = .ref p ∧ TupN H' p l ∧ ExtR rs.length (rs.drop C.length) C S l) → Q res H'
def spPrev (K : PySem.W.Frag) : Nat → Sp
  | 0 => fun _ _ _ _ => False
  | d + 1 => spAhead K d
theorem sc_Search_ahead : FnScope ["self", "at", "columns", "signs", "weights", "column", "sign", "found"] ["self", "at", "columns", "signs"] (defScope (inClass (top 58) 2)) := ⟨rfl, rfl, rfl, by decide +kernel, rfl, by decide +kernel, by decide +kernel⟩
theorem ok_Search_ahead (T : Txt K mg) (d : Nat) (m_Search_ahead : FnR P w K mg base CX0 (d + 1) (He.ma K (He.ga K "Search") "ahead") (spPrev K d)) : FnR P w K mg base CX0 (d + 2) (He.ma K (He.ga K "Search") "ahead") (spAhead K d) := by
  obtain ⟨fd, F⟩ := T.f_Search_ahead
  refine met_of F sc_Search_ahead (fun vs H Q E h => by first | (obtain ⟨_, rfl, _⟩ := h; rfl) | (obtain ⟨_, _, rfl, _⟩ := h; rfl) | (obtain ⟨_, _, _, rfl, _⟩ := h; rfl) | (obtain ⟨_, _, _, _, rfl, _⟩ := h; rfl) | (obtain ⟨_, _, _, _, _, rfl, _⟩ := h; rfl) | (obtain ⟨_, _, _, _, _, _, rfl, _⟩ := h; rfl) | (obtain ⟨_, _, _, _, _, _, _, rfl, _⟩ := h; rfl) | (obtain ⟨_, _, _, _, _, _, _, _, rfl, _⟩ := h; rfl)) (fun _ _ _ _ _ _ us hl => match us, hl with | [_, _, _, _], _ => rfl) (fun cdv A outer s H vs Q E hr h => ?_)
  obtain ⟨x, dd, rs, kvs, C, S, rfl, hS, hdd, L, hD, U, hd, q⟩ := h
  have h12 := L.le
  have hS' := hS
  obtain ⟨dx, r, wt, k0, hR, hW⟩ := hS'
  have hR' := hR
  obtain ⟨ps, ha, hE⟩ := hR'
  have lp := hE.length
  refine ⟨_, (pss_cons (ps_if (pt_cmpR op_eq (pv 1) (pe_callB (lenK (K := K) rfl) (by rfl) T.z_len (by decide +kernel) (pa_cons (peSl (K := K) rfl (pv 0)) pa_nil)) (nomark _)) (pss_one (ps_ret (pe_tup pa_nil))) pss_nil)
      (pss_cons (ps_if (pt_cmp (pc_din (hu_of hr) (pe_tup (pa_cons (pv 2) (pa_cons (pv 3) pa_nil))) (peSl (K := K) rfl (pv 0)))) (pss_one (ps_ret (pe_non))) pss_nil)
      (pss_cons (ps_set (i := 4) sc_Search_ahead.nd rfl (Or.inl rfl) (peSl (K := K) rfl (pv 0)))
      (pss_cons (ps_for PassesOwn.never rfl (pi_enumT (by rfl) T.z_enumerate (pa_cons (pe_ix (ixT (K := K) rfl) (peSl (K := K) rfl (pv 0)) (pv 1) (fun _ _ => rfl)) pa_nil)) (pgTup (K := K) (n := 2) rfl rfl (pgs_cons (pg_name (i := 5) sc_Search_ahead.nd rfl (Or.inl rfl)) (pgs_cons (pg_name (i := 6) sc_Search_ahead.nd rfl (Or.inl rfl)) pgs_nil))) (pss_one (ps_if (PW.pt (pw_and (pt_cmpR op_eq (pe_op op_and (pv 2) (pe_ix (ixL (K := K) rfl) (pv 4) (pv 5) (fun _ _ => rfl))) (pe_int) (nomark _)) (pw_and1 (pt_cmpR op_eq (pe_op op_and (pv 3) (pe_ix (ixL (K := K) rfl) (pv 4) (pv 6) (fun _ _ => rfl))) (pe_int) (nomark _))))) (pss_cons (ps_set (i := 7) sc_Search_ahead.nd rfl (Or.inl rfl) (SlX.pe_methSl (pv 0) T.s_Search T.m_Search_ahead m_Search_ahead (hr.mono (by omega)) pass0 (pa_cons (pe_op op_add (pv 1) (pe_int)) (pa_cons (pe_op op_add (pv 2) (pe_ix (ixL (K := K) rfl) (pv 4) (pv 5) (fun _ _ => rfl))) (pa_cons (pe_op op_add (pv 3) (pe_ix (ixL (K := K) rfl) (pv 4) (pv 6) (fun _ _ => rfl))) pa_nil)))))
      (pss_one (ps_if (pt_cmpR op_notN (pv 7) (pe_non) (nomark _)) (pss_one (ps_ret (pe_tup (pa_cons (pv 5) (StX.pa_star (pv 7) pa_nil))))) pss_nil))) pss_nil)))
      (pss_cons (ps_dput (hu_of hr) (peSl (K := K) rfl (pv 0)) (pe_tup (pa_cons (pv 2) (pa_cons (pv 3) pa_nil))) (pe_bl) rfl)
      (pss_one (ps_ret (pe_non)))))))), ?_⟩
  refine ⟨_, rfl, _, rfl, x, _, dx, _, _, _, .ref r, rfl, k0, T.s_Search, T.l_Search_own_rows, rfl, r, _, rfl, .inr (SqT.of ha), rfl, _, rfl, ?_⟩
  rw [List.length_map, lp, dec_vn]
  by_cases hz : C.length = rs.length
  · rw [decide_eq_true hz]
    refine iteT ⟨Nat.zero_le _, fun p hp => q _ _ kvs (fun b u e _ => ?_) ?_ hD (.inr ⟨p, [], rfl, upd_same, ?_⟩)⟩
    · rw [upd_ne (ne_of_none e hp)]; exact e
    · rw [upd_ne (ne_of_none hdd hp)]; exact hdd
    · rw [hz, List.drop_length]; rfl
  rw [decide_eq_false hz]
  refine iteF ?_
  -- the memory
  refine ⟨_, rfl, _, rfl, (by decide : 2 ≤ sizeLine), fun p hp => ?_⟩
  have s1 := same_upd (o := .tup [vn (msk C), vn (msk S)]) hp
  refine ⟨_, rfl, x, _, dx, _, _, _, .ref dd, rfl, Slt.mono k0 s1, T.s_Search, T.l_Search_own_dead, rfl, dd, _, rfl, DGet.t (k := keyOf C S) (s1 _ _ hdd) upd_same, _, rfl, ?_⟩
  cases hg : (valV kvs (keyOf C S)).isSome with
  | true =>
    refine iteT (q _ _ kvs (fun b u e _ => s1 _ _ e) (s1 _ _ hdd) hD (.inl ⟨rfl, hD.get U hg⟩))
  | false =>
  refine iteF ?_
  have hlt : C.length < rs.length := by omega
  obtain ⟨d', rfl⟩ : ∃ d', d = d' + 1 := ⟨d - 1, by omega⟩
  have edrop : rs.drop C.length = rs[C.length] :: rs.drop (C.length + 1) := List.drop_eq_getElem_cons hlt
  have mrow := List.getElem_mem hlt
  have prow := perm_lt (L.row _ mrow)
  generalize hrow : rs[C.length] = row at edrop mrow prow
  have hget : rs[C.length]? = some row := by rw [List.getElem?_eq_getElem hlt, hrow]
  refine ⟨_, rfl, x, _, dx, _, _, _, .ref wt, rfl, Slt.mono k0 s1, T.s_Search, T.l_Search_own_weights, rfl, ?_⟩
  obtain ⟨pr, hpr, tr⟩ := tupR_get hE hget
  generalize upd H p (.tup [vn (msk C), vn (msk S)]) = H1 at s1
  refine ⟨_, rfl, x, _, dx, _, _, _, .ref r, rfl, Slt.mono k0 s1, T.s_Search, T.l_Search_own_rows, rfl, _, rfl, r, _, _, .ref pr, rfl, rfl, SqT.of (s1 _ _ ha), hpr, pr, _, rfl, SqT.of (tr.mono s1), ?_⟩
  have hW' : ∀ H', SameX dd H H' → SqL K H' wt (((List.range (rs.length + 1)).map fun i => 2 ^ i).map vn) := fun H' s => SqL.of (s.keep hdd hW (fun _ z => nomatch z))
  have wat : ∀ c, c < rs.length → atI (((List.range (rs.length + 1)).map fun i => 2 ^ i).map vn) (c : Int) = some (vn (2 ^ c)) := fun c hc => by
    refine atV ?_
    rw [List.getElem?_map, List.getElem?_map, List.getElem?_range (by omega)]
    rfl
  refine for_it walk_enumT (fun i σ H' => (∃ a b c, σ = [some (.ref x), some (vn C.length), some (vn (msk C)), some (vn (msk S)), some (.ref wt), a, b, c]) ∧ SameX dd H H' ∧ (∃ kvs', H' dd = some (.dT kvs') ∧ DeadOk rs.length rs kvs') ∧
    ∀ c l', c < i → c ∉ C → row.getD c 0 ∉ S → ¬ ExtR rs.length (rs.drop (C.length + 1)) (c :: C) (row.getD c 0 :: S) l') ⟨⟨_, _, _, rfl⟩, Same.x s1 dd, ⟨kvs, s1 _ _ hdd, hD⟩, fun c l' z => absurd z (by omega)⟩
    (fun i σ H' _ p => SqT.of (tupN_keep p.2.1 hdd tr)) (fun i x' σ H1 H2 hi p y => ?_) (fun σ H' p => ?_)
  · obtain ⟨⟨_, _, _, rfl⟩, sx, ⟨kvs', hk', hD'⟩, no⟩ := p
    obtain ⟨Tp, x1, x2, rfl, hT, rfl, e1, e2⟩ := y
    cases e1
    rw [List.length_map] at hi
    have e3 : (row.map vn)[i]? = some x2 := e2
    rw [List.getElem?_map, List.getElem?_eq_getElem hi] at e3
    cases e3
    have s2 := same_upd (o := .tup [vn i, vn row[i]]) hT
    have sx2 : SameX dd H (upd H1 Tp (.tup [vn i, vn row[i]])) := fun b u e n => s2 _ _ (sx b u e n)
    have hk2 := s2 _ _ hk'
    have egi : row.getD i 0 = row[i] := getD_of (List.getElem?_eq_getElem hi)
    have hi' : i < rs.length := by omega
    have hsi : row[i] < rs.length := prow.2 _ (List.getElem_mem hi)
    refine ⟨Tp, _, rfl, SqT.of upd_same, rfl, _, _, rfl, _, _, rfl, rfl, ?_⟩
    generalize upd H1 Tp (.tup [vn i, vn row[i]]) = H2 at s2 sx2 hk2
    have skip : (i ∉ C → row[i] ∉ S → False) → ∀ c l', c < i + 1 → c ∉ C → row.getD c 0 ∉ S → ¬ ExtR rs.length (rs.drop (C.length + 1)) (c :: C) (row.getD c 0 :: S) l' := fun z c l' hc h1 h2 => by
      by_cases hci : c < i
      · exact no c l' hci h1 h2
      · obtain rfl : c = i := by omega
        rw [egi] at h2
        exact (z h1 h2).elim
    refine ⟨_, rfl, _, rfl, _, rfl, wt, _, _, vn (2 ^ i), rfl, rfl, hW' H2 sx2, wat i hi', _, _, rfl, rfl, rfl, _, rfl, ?_⟩
    show (if decide (V.int (Builtin.bitAnd ((msk C : Nat) : Int) ((2 ^ i : Nat) : Int)) = V.int 0) = true then _ else _)
    rw [bAnd, dec_v0]
    by_cases hc : i ∈ C
    · rw [decide_eq_false (fun z => (msk_free U.c).mp z hc)]
      exact iteF (iteF ⟨⟨_, _, _, rfl⟩, sx2, ⟨kvs', hk2, hD'⟩, skip fun z => absurd hc z⟩)
    rw [decide_eq_true ((msk_free U.c).mpr hc)]
    refine iteT ?_
    refine ⟨_, rfl, _, rfl, _, rfl, wt, _, _, vn (2 ^ row[i]), rfl, rfl, hW' H2 sx2, wat row[i] hsi, _, _, rfl, rfl, rfl, _, rfl, ?_⟩
    show (if decide (V.int (Builtin.bitAnd ((msk S : Nat) : Int) ((2 ^ row[i] : Nat) : Int)) = V.int 0) = true then _ else _)
    rw [bAnd, dec_v0]
    by_cases hs : row[i] ∈ S
    · rw [decide_eq_false (fun z => (msk_free U.s).mp z hs)]
      exact iteF ⟨⟨_, _, _, rfl⟩, sx2, ⟨kvs', hk2, hD'⟩, skip fun _ z => absurd hs z⟩
    rw [decide_eq_true ((msk_free U.s).mpr hs)]
    refine iteT ?_
    have U' := U.cons hi' hc hsi hs
    refine ⟨_, rfl, x, dx, _, rfl, slt_keep sx2 hdd k0, _, rfl, _, _, rfl, rfl, _, rfl, _, rfl, _, rfl, wt, _, _, vn (2 ^ i), rfl, rfl, hW' H2 sx2, wat i hi', _, _, rfl, rfl, _, rfl, _, rfl, _, rfl, wt, _, _, vn (2 ^ row[i]), rfl, rfl, hW' H2 sx2, wat row[i] hsi, _, _, rfl, rfl, ?_⟩
    refine ⟨x, dd, rs, kvs', i :: C, row[i] :: S, rfl, hS.keep sx2 hdd, hk2, L, hD', U', by rw [List.length_cons]; omega, fun res H4 kvs4 s4 h4 hD4 ho => ?_⟩
    have sx4 : SameX dd H H4 := sx2.trans s4
    rcases ho with ⟨rfl, ho⟩ | ⟨p4, l4, rfl, t4, x4⟩
    · refine ⟨_, rfl, rfl, _, rfl, ?_⟩
      refine iteF ⟨⟨_, _, _, rfl⟩, sx4, ⟨kvs4, h4, hD4⟩, fun c l' hci h1 h2 => ?_⟩
      by_cases hc2 : c < i
      · exact no c l' hc2 h1 h2
      · obtain rfl : c = i := by omega
        rw [egi]
        exact ho l'
    · refine ⟨_, rfl, rfl, _, rfl, ?_⟩
      have el := (ext_iff.mp x4).1
      have hz' : sizeLine = 16777216 := sizeLine_eq
      have el2 : l4.length ≤ 12 := by rw [el, List.length_drop]; omega
      refine iteT ⟨_, rfl, _, rfl, p4, _, rfl, .inl (SqT.of t4), by rw [List.append_nil, List.length_cons, List.length_map]; omega, fun p5 hp5 => q _ _ kvs4 (fun b u e n => ?_) ?_ hD4 (.inr ⟨p5, i :: l4, rfl, ?_, ?_⟩)⟩
      · have e' := sx4 _ _ e n
        rw [upd_ne (ne_of_none e' hp5)]
        exact e'
      · rw [upd_ne (ne_of_none h4 hp5)]; exact h4
      · show upd _ _ _ _ = _
        rw [upd_same, List.append_nil]
        rfl
      · rw [edrop]
        exact ⟨i, l4, rfl, hi', hc, by rw [egi]; exact hs, by rw [egi]; exact x4⟩
  · obtain ⟨⟨_, _, _, rfl⟩, sx, ⟨kvs', hk', hD'⟩, no⟩ := p
    have none_ : ∀ l, ¬ ExtR rs.length (rs.drop C.length) C S l := fun l hl => by
      rw [edrop] at hl
      obtain ⟨c, l', rfl, h1, h2, h3, h4⟩ := hl
      exact no c l' (by rw [List.length_map]; omega) h2 h3 h4
    refine ⟨_, rfl, x, _, dx, _, _, _, .ref dd, rfl, slt_keep sx hdd k0, T.s_Search, T.l_Search_own_dead, rfl, ?_⟩
    refine ⟨_, rfl, _, rfl, (by decide : 2 ≤ sizeLine), fun p2 hp2 => ?_⟩
    have hk2 : upd H' p2 (.tup [vn (msk C), vn (msk S)]) dd = some (.dT kvs') := by rw [upd_ne (ne_of_none hk' hp2)]; exact hk'
    refine ⟨dd, _, rfl, DPut.t (k := keyOf C S) hk2 upd_same (hD'.len h12), ?_⟩
    refine q _ _ _ (fun b u e n => ?_) upd_same (hD'.put U none_) (.inl ⟨rfl, none_⟩)
    have e' := sx _ _ e n
    rw [upd_ne n, upd_ne (ne_of_none e' hp2)]
    exact e'
theorem ok_ahead_all (T : Txt K mg) : ∀ d : Nat, FnR P w K mg base CX0 (d + 2) (He.ma K (He.ga K "Search") "ahead") (spAhead K d)
  | 0 => ok_Search_ahead T 0 fun _ _ _ _ _ _ _ _ _ _ _ h => h.elim
  | d + 1 => ok_Search_ahead T (d + 1) ((ok_ahead_all T d).mono (by omega))
/-- what complete_mapping answers -/
def spComp (K : PySem.W.Frag) : Sp := fun vs H Q _ => ∃ (a : Addr) (rs : Rows), vs = [.ref a] ∧ LoopAt K H a rs ∧ Grp rs ∧ (∀ H', Same H H' → (barM rs = true ∨ ¬ HasX rs) → Q .non H') ∧ ∀ p m H', Same H H' → barM rs = false → TupN H' p m → Crs rs m → Q (.ref p) H'
theorem sc_complete_mapping : FnScope ["loop"] ["loop"] (defScope (top 59)) := ⟨rfl, rfl, rfl, by decide +kernel, rfl, by decide +kernel, by decide +kernel⟩
theorem ok_complete_mapping (T : Txt K mg) (c_require_loop : Cal P w K mg base 3 "require_loop" (spReqLoop K)) (c_require_group : Cal P w K mg base 7 "require_group" (spReqGroup K)) (c_is_barred_group : Cal P w K mg base 9 "is_barred_group" (spBarG K)) (m_Loop_order : FnR P w K mg base CX0 2 (pgA K "Loop" "order") (spLoopOrd K)) (m_Loop_table : FnR P w K mg base CX0 2 (pgA K "Loop" "table") (spLoopTab K)) (m_Search_init : FnR P w K mg base CX0 5 (He.ma K (He.ga K "Search") "__init__") (spSearch K)) (m_Search_ahead : FnR P w K mg base CX0 14 (He.ma K (He.ga K "Search") "ahead") (fun vs H Q E => ∃ d, d ≤ 12 ∧ spAhead K d vs H Q E)) : Cal P w K mg base (15) "complete_mapping" (spComp K) := by
  obtain ⟨fd, F⟩ := T.f_complete_mapping
  obtain ⟨_, hMOST_MAPPED⟩ := T.i_MOST_MAPPED
  refine cal_of T.g_complete_mapping F sc_complete_mapping (fun vs H Q E h => by first | (obtain ⟨_, rfl, _⟩ := h; rfl) | (obtain ⟨_, _, rfl, _⟩ := h; rfl) | (obtain ⟨_, _, _, rfl, _⟩ := h; rfl) | (obtain ⟨_, _, _, _, rfl, _⟩ := h; rfl) | (obtain ⟨_, _, _, _, _, rfl, _⟩ := h; rfl) | (obtain ⟨_, _, _, _, _, _, rfl, _⟩ := h; rfl) | (obtain ⟨_, _, _, _, _, _, _, rfl, _⟩ := h; rfl) | (obtain ⟨_, _, _, _, _, _, _, _, rfl, _⟩ := h; rfl)) (fun _ _ _ _ _ _ us hl => match us, hl with | [_], _ => rfl) (fun cdv A outer s H vs Q E hr h => ?_)
  obtain ⟨a, rs, rfl, hL, G, q1, q2⟩ := h
  have h12 := G.le
  have hL' := hL
  obtain ⟨dx, m, r, t, hS, _⟩ := hL'
  refine ⟨_, (pss_cons (ps_expr (pe_cal c_require_loop (hr.mono (by decide)) (pa_cons (pv 0) pa_nil)))
      (pss_cons (ps_expr (pe_cal c_require_group (hr.mono (by decide)) (pa_cons (pv 0) pa_nil)))
      (pss_cons (ps_if (pt_cmpR op_gt (SlX.pe_propSl (E := E0) (pv 0) T.s_Loop T.p_Loop_order.at_ T.p_Loop_order.get T.p_Loop_order.tk T.p_Loop_order.rc m_Loop_order (hr.mono (by decide)) (fun _ _ _ _ h => h.elim)) (pe_glob (v := .int 12) (by rfl) hMOST_MAPPED ⟨_, rfl⟩) (nomark _)) (pss_one (ps_never)) pss_nil)
      (pss_one (ps_ret (pe_ifExp (pt_val (pe_cal c_is_barred_group (hr.mono (by decide)) (pa_cons (pv 0) pa_nil))) (pe_non) (SlX.pe_methSl (StX.pe_makeR T.k_Search m_Search_init (hr.mono (by decide)) (by rfl) T.g_Search pass0 (pa_cons (peSl (K := K) rfl (SlX.pe_propSl (E := E0) (pv 0) T.s_Loop T.p_Loop_table.at_ T.p_Loop_table.get T.p_Loop_table.tk T.p_Loop_table.rc m_Loop_table (hr.mono (by decide)) (fun _ _ _ _ h => h.elim))) pa_nil)) T.s_Search T.m_Search_ahead m_Search_ahead (hr.mono (by decide)) pass0 (pa_cons (pe_int) (pa_cons (pe_int) (pa_cons (pe_int) pa_nil)))))))))), ?_⟩
  refine ⟨_, rfl, a, rs, rfl, hL, ?_⟩
  refine ⟨_, rfl, a, rs, rfl, hL, G, fun H1 s1 => ?_⟩
  refine ⟨_, rfl, a, dx, _, rfl, Slt.mono hS s1, a, rs, rfl, hL.mono s1, _, _, rfl, rfl, _, rfl, ?_⟩
  rw [decide_eq_false (by omega)]
  refine iteF ?_
  refine ⟨_, rfl, a, rs, rfl, hL.mono s1, G, fun H2 s2 => ⟨_, rfl, ?_⟩⟩
  have s2' : Same H H2 := fun b u e => s2 _ _ (s1 _ _ e)
  cases hb : barM rs with
  | true => exact iteT (q1 H2 s2' (.inl hb))
  | false =>
    refine iteF ?_
    refine ⟨_, rfl, a, dx, _, rfl, Slt.mono hS s2', a, rs, rfl, hL.mono s2', fun t2 ht2 => ?_⟩
    obtain ⟨d2, p1, p2, r2, hS2, hR2⟩ := ht2
    refine ⟨t2, _, d2, _, _, _, .ref r2, rfl, hS2, T.s_Table, T.l_Table_own_rows, rfl, fun x dx2 hx hdx hne => ?_⟩
    refine ⟨x, dx2, H2, r2, rs, rfl, rfl, hx, hdx, hne, hR2, h12, fun H3 dd s3 hdn hSA hdd => ⟨rfl, ?_⟩⟩
    have hSA' := hSA
    obtain ⟨dx3, r3, wt, k0, _⟩ := hSA'
    refine ⟨x, dx3, _, rfl, k0, rs.length, h12, x, dd, rs, [], [], [], rfl, hSA, hdd, G.toLat, DeadOk.nil, ⟨List.nodup_nil, List.nodup_nil, by simp, by simp, rfl⟩, by simp, fun res H4 kvs4 s4 h4 hD4 ho => ?_⟩
    have s4' : Same H H4 := fun b u e => s4 _ _ (s3 _ _ (s2' _ _ e)) (ne_of_none (s2' _ _ e) hdn)
    rcases ho with ⟨rfl, ho⟩ | ⟨p4, l4, rfl, t4, x4⟩
    · exact q1 H4 s4' (.inr fun ⟨l, hl⟩ => ho l (ext_crs.mpr hl))
    · exact q2 p4 l4 H4 s4' hb t4 (ext_crs.mp x4)
end
end K61

set_option Elab.async false
set_option maxRecDepth 100000
set_option maxHeartbeats 4000000
namespace K61
open PySem PySem.Spec PyProof.Rows L2
section
variable {P : Program} {w : World} {K : PySem.W.Frag} {mg : Str → Option Value} {base : Heap}
/-- a def with defaults dvs, called with the others -/
structure CalD (P : Program) (w : World) (K : PySem.W.Frag) (mg : Str → Option Value) (base : Heap) (k : Nat) (x : Str) (dvs : List V) (sp : Sp) : Prop where
  ex : ∃ (f : Addr) (fd : FuncData) (ps : List Str) (ds : List Value), mg x = some (.ref f) ∧ PySem.W.keepIn K (.ref f) = true ∧ Binds K fd ps ds ∧ Vals dvs ds ∧ FnOk P w K mg base CX0 k f fd ps sp
theorem pe_calD {X : Cx} {k : Nat} {x : Str} {sp : Sp} {e : Expr} {es : List Expr} {t : TA} {p pos : Pos} {dvs : List V} (c : CalD X.prog X.w X.K X.mg X.base k x dvs sp) (hr : Room k X.A) (ha : PA X (e :: es) t) (hg : Gl X x := by rfl)
    (hdb : (x == ("__debug__" : Str)) = false := by decide) (he : starEach (e :: es) X.env = (false, eval e X.env) :: starEach es X.env := by rfl) (hpl : (backTo pos (starEach es X.env)).any (·.1) = false := by rfl) :
    PE X (.Call (.Name x p) (e :: es) [] pos) (tCall sp dvs E0 t) := by
  obtain ⟨f, fd, ps, ds, h1, h2, h3, h4, h5⟩ := c.ex
  exact pe_call h5 hr hg h1 h2 h3 h4 pass0 ha hdb he hpl
/-- what a dict's keys are, its values whole numbers above 0 -/
structure KeysOk (kvs : List (List Key × V)) (Pk : List Key → Prop) : Prop where
  nd : (kvs.map (·.1)).Nodup
  mem : ∀ k, k ∈ kvs.map (·.1) ↔ Pk k
  val : ∀ kv ∈ kvs, ∃ v : Int, kv.2 = .int v ∧ 1 ≤ v
theorem KeysOk.congr {kvs : List (List Key × V)} {Pk Pk' : List Key → Prop} (h : KeysOk kvs Pk) (e : ∀ k, Pk k ↔ Pk' k) : KeysOk kvs Pk' := ⟨h.nd, fun k => (h.mem k).trans (e k), h.val⟩
theorem KeysOk.get {kvs : List (List Key × V)} {Pk : List Key → Prop} (h : KeysOk kvs Pk) (k : List Key) : ∃ v : Int, (valV kvs k).getD (.int 0) = .int v ∧ 0 ≤ v := by
  cases e : valV kvs k with
  | none => exact ⟨0, rfl, Int.le_refl _⟩
  | some y =>
    unfold valV at e
    obtain ⟨p, hp, rfl⟩ := Option.map_eq_some_iff.mp e
    obtain ⟨v, hv, h1⟩ := h.val p (List.mem_of_find?_eq_some hp)
    exact ⟨v, hv, by omega⟩
theorem KeysOk.put {kvs : List (List Key × V)} {Pk : List Key → Prop} (h : KeysOk kvs Pk) (k : List Key) {v : Int} (hv : 1 ≤ v) : KeysOk (putK kvs k (.int v)) (fun j => Pk j ∨ j = k) := by
  have vals : ∀ kv ∈ putK kvs k (.int v), ∃ v : Int, kv.2 = .int v ∧ 1 ≤ v := fun kv hkv => by
    unfold putK at hkv
    split at hkv
    · obtain ⟨p, hp, e⟩ := List.mem_map.mp hkv
      split at e
      · rw [← e]; exact ⟨v, rfl, hv⟩
      · rw [← e]; exact h.val p hp
    · rcases List.mem_append.mp hkv with hp | hp
      · exact h.val _ hp
      · rw [List.mem_singleton.mp hp]; exact ⟨v, rfl, hv⟩
  by_cases hk : k ∈ kvs.map (·.1)
  · refine ⟨by rw [keys_in hk]; exact h.nd, fun j => ?_, vals⟩
    rw [keys_in hk, h.mem]
    exact ⟨.inl, fun z => z.elim id fun e => by rw [e]; exact (h.mem k).mp hk⟩
  · refine ⟨by rw [keys_new hk]; exact nodup_snoc h.nd hk, fun j => ?_, vals⟩
    rw [keys_new hk, List.mem_append, h.mem, List.mem_singleton]
theorem KeysOk.len {kvs : List (List Key × V)} {Pk : List Key → Prop} (h : KeysOk kvs Pk) (hb : ∀ k, Pk k → ∃ a b, k = keyN a b ∧ a < 512 ∧ b < 512) : kvs.length < sizeLine := by
  have nd : ((kvs.map (·.1)).map codeK).Nodup := nodup_map_on (fun a ha b hb' e => by
    obtain ⟨x, y, rfl, h1, h2⟩ := hb a ((h.mem a).mp ha)
    obtain ⟨x', y', rfl, h1', h2'⟩ := hb b ((h.mem b).mp hb')
    rw [codeK_of, codeK_of] at e
    rw [show x = x' by omega, show y = y' by omega]) h.nd
  have z := List.Nodup.length_le_of_subset (l₂ := List.range 2097152) nd fun x hx => by
    obtain ⟨k, hk, rfl⟩ := List.mem_map.mp hx
    obtain ⟨x, y, rfl, h1, h2⟩ := hb k ((h.mem k).mp hk)
    rw [codeK_of, List.mem_range]
    omega
  rw [List.length_map, List.length_map, List.length_range] at z
  have : sizeLine = 16777216 := sizeLine_eq
  omega
/-- a tuple of two numbers -/
def Pr2 (H : Hp) (p : Addr) (x : Nat × Nat) : Prop := H p = some (.tup [vn x.1, vn x.2])
/-- the keys behind a step: the first i states with all pairs, the next with the first j -/
def StepK (kvs : List (List Key × V)) (prs : List (Nat × Nat)) (i j : Nat) (k : List Key) : Prop :=
  ∃ e a b v p x, (e < i ∨ (e = i ∧ p < j)) ∧ kvs[e]? = some (keyN a b, v) ∧ prs[p]? = some x ∧ a &&& x.1 = 0 ∧ b &&& x.2 = 0 ∧ k = keyN (a + x.1) (b + x.2)
theorem step_add {kvs : List (List Key × V)} {prs : List (Nat × Nat)} {i j a b : Nat} {v : V} {x : Nat × Nat} (h1 : kvs[i]? = some (keyN a b, v)) (h2 : prs[j]? = some x) (h3 : a &&& x.1 = 0) (h4 : b &&& x.2 = 0) (k : List Key) :
    (StepK kvs prs i j k ∨ k = keyN (a + x.1) (b + x.2)) ↔ StepK kvs prs i (j + 1) k := by
  constructor
  · rintro (⟨e, a', b', v', p, x', hh, r⟩ | rfl)
    · exact ⟨e, a', b', v', p, x', hh.imp id fun z => ⟨z.1, by omega⟩, r⟩
    · exact ⟨i, a, b, v, j, x, .inr ⟨rfl, by omega⟩, h1, h2, h3, h4, rfl⟩
  · rintro ⟨e, a', b', v', p, x', hh, r1, r2, r3, r4, r5⟩
    rcases hh with hh | ⟨rfl, hp⟩
    · exact .inl ⟨e, a', b', v', p, x', .inl hh, r1, r2, r3, r4, r5⟩
    · by_cases hj : p < j
      · exact .inl ⟨e, a', b', v', p, x', .inr ⟨rfl, hj⟩, r1, r2, r3, r4, r5⟩
      · obtain rfl : p = j := by omega
        rw [h1] at r1
        rw [h2] at r2
        cases r2
        obtain ⟨e1, e2⟩ := keyN_inj (congrArg Prod.fst (Option.some.inj r1))
        exact .inr (by rw [r5, e1, e2])
theorem step_skip {kvs : List (List Key × V)} {prs : List (Nat × Nat)} {i j a b : Nat} {v : V} {x : Nat × Nat} (h1 : kvs[i]? = some (keyN a b, v)) (h2 : prs[j]? = some x) (h3 : ¬ (a &&& x.1 = 0 ∧ b &&& x.2 = 0)) (k : List Key) :
    StepK kvs prs i j k ↔ StepK kvs prs i (j + 1) k := by
  constructor
  · rintro ⟨e, a', b', v', p, x', hh, r⟩
    exact ⟨e, a', b', v', p, x', hh.imp id fun z => ⟨z.1, by omega⟩, r⟩
  · rintro ⟨e, a', b', v', p, x', hh, r1, r2, r3, r4, r5⟩
    rcases hh with hh | ⟨rfl, hp⟩
    · exact ⟨e, a', b', v', p, x', .inl hh, r1, r2, r3, r4, r5⟩
    · by_cases hj : p < j
      · exact ⟨e, a', b', v', p, x', .inr ⟨rfl, hj⟩, r1, r2, r3, r4, r5⟩
      · obtain rfl : p = j := by omega
        rw [h1] at r1
        rw [h2] at r2
        cases r2
        obtain ⟨e1, e2⟩ := keyN_inj (congrArg Prod.fst (Option.some.inj r1))
        rw [← e1] at r3
        rw [← e2] at r4
        exact absurd ⟨r3, r4⟩ h3
theorem step_next {kvs : List (List Key × V)} {prs : List (Nat × Nat)} {i : Nat} (k : List Key) : StepK kvs prs i prs.length k ↔ StepK kvs prs (i + 1) 0 k := by
  constructor
  · rintro ⟨e, a', b', v', p, x', hh, r⟩
    exact ⟨e, a', b', v', p, x', .inl (by omega), r⟩
  · rintro ⟨e, a', b', v', p, x', hh, r1, r2, r⟩
    have := (List.getElem?_eq_some_iff.mp r2).1
    exact ⟨e, a', b', v', p, x', by omega, r1, r2, r⟩
def spStepped : Sp := fun vs H Q _ => ∃ (d pl : Addr) (kvs : List (List Key × V)) (ps : List Addr) (prs : List (Nat × Nat)), vs = [.ref d, .ref pl] ∧ H d = some (.dT kvs) ∧ H pl = some (.lst (ps.map V.ref)) ∧ Each Pr2 H ps prs ∧
  (∀ kv ∈ kvs, ∃ a b v, kv = (keyN a b, V.int v) ∧ 1 ≤ v ∧ ∀ x ∈ prs, (a &&& x.1 = 0 → a + x.1 < 512) ∧ (b &&& x.2 = 0 → b + x.2 < 512)) ∧
  ∀ lt H' kvs', Same H H' → H' lt = some (.dT kvs') → KeysOk kvs' (StepK kvs prs kvs.length 0) → Q (.ref lt) H'
theorem sc_stepped : FnScope ["states", "pairs", "later", "columns", "signs", "many", "column", "sign", "key"] ["states", "pairs"] (defScope (top 37)) := ⟨rfl, rfl, rfl, by decide +kernel, rfl, by decide +kernel, by decide +kernel⟩
theorem ok_stepped (T : Txt K mg)  : Cal P w K mg base (3) "stepped" (spStepped) := by
  obtain ⟨fd, F⟩ := T.f_stepped
  refine cal_of T.g_stepped F sc_stepped (fun vs H Q E h => by first | (obtain ⟨_, rfl, _⟩ := h; rfl) | (obtain ⟨_, _, rfl, _⟩ := h; rfl) | (obtain ⟨_, _, _, rfl, _⟩ := h; rfl) | (obtain ⟨_, _, _, _, rfl, _⟩ := h; rfl) | (obtain ⟨_, _, _, _, _, rfl, _⟩ := h; rfl) | (obtain ⟨_, _, _, _, _, _, rfl, _⟩ := h; rfl) | (obtain ⟨_, _, _, _, _, _, _, rfl, _⟩ := h; rfl) | (obtain ⟨_, _, _, _, _, _, _, _, rfl, _⟩ := h; rfl)) (fun _ _ _ _ _ _ us hl => match us, hl with | [_, _], _ => rfl) (fun cdv A outer s H vs Q E hr h => ?_)
  obtain ⟨d, pl, kvs, ps, prs, rfl, hd, hpl, hE, hB, q⟩ := h
  have lp := hE.length
  refine ⟨_, (pss_cons (ps_set (i := 2) sc_stepped.nd rfl (Or.inl rfl) (pe_dnewT))
      (pss_cons (ps_lock (ps_for PassesOwn.never rfl (pi_itemsT (pv 0)) (pgTup (K := K) (n := 2) rfl rfl (pgs_cons (pgTup (K := K) (n := 2) rfl rfl (pgs_cons (pg_name (i := 3) sc_stepped.nd rfl (Or.inl rfl)) (pgs_cons (pg_name (i := 4) sc_stepped.nd rfl (Or.inl rfl)) pgs_nil))) (pgs_cons (pg_name (i := 5) sc_stepped.nd rfl (Or.inl rfl)) pgs_nil))) (pss_one (ps_for PassesOwn.never rfl (piL (K := K) rfl (pv 1)) (pgTup (K := K) (n := 2) rfl rfl (pgs_cons (pg_name (i := 6) sc_stepped.nd rfl (Or.inl rfl)) (pgs_cons (pg_name (i := 7) sc_stepped.nd rfl (Or.inl rfl)) pgs_nil))) (pss_one (ps_if (PW.pt (pw_and (pt_cmpR op_eq (pe_op op_and (pv 3) (pv 6)) (pe_int) (nomark _)) (pw_and1 (pt_cmpR op_eq (pe_op op_and (pv 4) (pv 7)) (pe_int) (nomark _))))) (pss_cons (ps_set (i := 8) sc_stepped.nd rfl (Or.inl rfl) (pe_tup (pa_cons (pe_op op_add (pv 3) (pv 6)) (pa_cons (pe_op op_add (pv 4) (pv 7)) pa_nil))))
      (pss_one (ps_dput (hu_of hr) (pv 2) (pv 8) (pe_op op_add (pe_dget2 (hu_of hr) (pv 2) (pv 8) (pe_int) ⟨rfl, rfl, rfl, rfl⟩) (pv 5)) rfl))) pss_nil))))))
      (pss_one (ps_ret (pv 2))))), ?_⟩
  refine fun lt hlt => ?_
  have nd : d ≠ lt := ne_of_none hd hlt
  refine ⟨d, .dT kvs, by rw [upd_ne nd]; exact hd, trivial, fun od => ?_⟩
  -- the locked heap
  have sL : ∀ b u, H b = some u → b ≠ d → (upd (upd H lt (.dT [])) d (.frz od (.dT kvs))) b = some u := fun b u e n => by rw [upd_ne n, upd_ne (ne_of_none e hlt)]; exact e
  have hL : (upd (upd H lt (.dT [])) d (.frz od (.dT kvs))) lt = some (.dT []) := by rw [upd_ne nd.symm]; exact upd_same
  have hF : (upd (upd H lt (.dT [])) d (.frz od (.dT kvs))) d = some (.frz od (.dT kvs)) := upd_same
  generalize upd (upd H lt (.dT [])) d (.frz od (.dT kvs)) = H1 at sL hL hF
  refine ⟨_, rfl, d, od, kvs, rfl, hF, ?_⟩
  refine for_it walk_itemsT (fun i σ H' => (∃ a b c e f g, σ = [some (.ref d), some (.ref pl), some (.ref lt), a, b, c, e, f, g]) ∧ SameX lt H1 H' ∧ ∃ kvs', H' lt = some (.dT kvs') ∧ KeysOk kvs' (StepK kvs prs i 0)) ⟨⟨_, _, _, _, _, _, rfl⟩, SameX.refl, [], hL, List.nodup_nil, fun k => ?_, by simp⟩ (fun i σ H' _ p => p.2.1 _ _ hF nd) (fun i x σ H2 H3 hi p y => ?_) (fun σ H' p => ?_)
  · constructor
    · intro z; simp at z
    · rintro ⟨e, _, _, _, p, _, hh, _⟩; omega
  · obtain ⟨⟨_, _, _, _, _, _, rfl⟩, sx, kvs', hk', hK⟩ := p
    obtain ⟨Tp, k0, v0, qq, hkv, hqq, rfl, hT, rfl⟩ := y
    obtain ⟨a, b, v, e0, hv1, hB'⟩ := hB _ (List.mem_of_getElem? hkv)
    cases e0
    have s2 := same_upd (o := .tup [.ref qq, V.int v]) hT
    refine ⟨Tp, _, rfl, SqT.of upd_same, rfl, _, _, rfl, qq, _, rfl, SqT.of (s2 _ _ hqq), rfl, _, _, rfl, _, _, rfl, rfl, _, _, rfl, rfl, ?_⟩
    have sx2 : SameX lt H1 (upd H2 Tp (.tup [.ref qq, V.int v])) := fun b u e n => s2 _ _ (sx b u e n)
    have hk2 := s2 _ _ hk'
    generalize upd H2 Tp (.tup [.ref qq, V.int v]) = H3 at s2 sx2 hk2
    have npl : pl ≠ lt := ne_of_none hpl hlt
    have npd : pl ≠ d := ne_of hpl hd (fun z => nomatch z)
    refine ⟨_, rfl, pl, rfl, ⟨_, SqL.of (sx2 _ _ (sL _ _ hpl npd) npl)⟩, ?_⟩
    refine for_it walk_list (fun j σ H' => (∃ e f g, σ = [some (.ref d), some (.ref pl), some (.ref lt), some (vn a), some (vn b), some (.int v), e, f, g]) ∧ SameX lt H1 H' ∧ ∃ kvs', H' lt = some (.dT kvs') ∧ KeysOk kvs' (StepK kvs prs i j)) ⟨⟨_, _, _, rfl⟩, sx2, kvs', hk2, hK⟩ (fun j σ H' _ p => SqL.of (p.2.1 _ _ (sL _ _ hpl npd) npl)) (fun j x σ H4 H5 hj p y => ?_) (fun σ H' p => ?_)
    · obtain ⟨⟨_, _, _, rfl⟩, sx, kvs', hk', hK⟩ := p
      obtain ⟨rfl, hx⟩ := y
      obtain ⟨pj, xj, rfl, hxj, tj⟩ := hE.refs hx
      have npj : pj ≠ lt := ne_of_none tj hlt
      have ndj : pj ≠ d := ne_of tj hd (fun z => nomatch z)
      have tj' := sx _ _ (sL _ _ tj ndj) npj
      have hBx := hB' xj (List.mem_of_getElem? hxj)
      refine ⟨pj, _, rfl, SqT.of tj', rfl, _, _, rfl, _, _, rfl, rfl, ?_⟩
      refine ⟨_, rfl, _, rfl, _, _, rfl, rfl, rfl, _, rfl, ?_⟩
      show (if decide (V.int (Builtin.bitAnd ((a : Nat) : Int) ((xj.1 : Nat) : Int)) = V.int 0) = true then _ else _)
      rw [bAnd, dec_v0]
      by_cases c1 : a &&& xj.1 = 0
      case neg =>
        rw [decide_eq_false c1]
        exact iteF (iteF ⟨⟨_, _, _, rfl⟩, sx, kvs', hk', hK.congr (step_skip hkv hxj fun z => c1 z.1)⟩)
      rw [decide_eq_true c1]
      refine iteT ?_
      refine ⟨_, rfl, _, rfl, _, _, rfl, rfl, rfl, _, rfl, ?_⟩
      show (if decide (V.int (Builtin.bitAnd ((b : Nat) : Int) ((xj.2 : Nat) : Int)) = V.int 0) = true then _ else _)
      rw [bAnd, dec_v0]
      by_cases c2 : b &&& xj.2 = 0
      case neg =>
        rw [decide_eq_false c2]
        exact iteF ⟨⟨_, _, _, rfl⟩, sx, kvs', hk', hK.congr (step_skip hkv hxj fun z => c2 z.2)⟩
      rw [decide_eq_true c2]
      refine iteT ?_
      refine ⟨_, rfl, _, rfl, _, _, rfl, rfl, _, rfl, _, rfl, _, _, rfl, rfl, (by decide : 2 ≤ sizeLine), fun kp hkp => ?_⟩
      have s4 := same_upd (o := .tup [V.int ((a : Int) + (xj.1 : Int)), V.int ((b : Int) + (xj.2 : Int))]) hkp
      have hk4 := s4 _ _ hk'
      have ek : (upd H5 kp (.tup [V.int ((a : Int) + (xj.1 : Int)), V.int ((b : Int) + (xj.2 : Int))])) kp = some (.tup ((keyN (a + xj.1) (b + xj.2)).map kV)) := upd_same
      have sx4 : SameX lt H1 (upd H5 kp (.tup [V.int ((a : Int) + (xj.1 : Int)), V.int ((b : Int) + (xj.2 : Int))])) := fun b u e n => s4 _ _ (sx b u e n)
      obtain ⟨vo, hvo, hvo1⟩ := hK.get (keyN (a + xj.1) (b + xj.2))
      refine ⟨_, rfl, lt, rfl, .inr ⟨_, .inl hk4⟩, _, rfl, _, DGet.t hk4 ek, _, rfl, vo, v, hvo, rfl, ?_⟩
      refine ⟨_, rfl, _, rfl, lt, _, rfl, DPut.t hk4 ek (hK.len fun k hk => ?_), ⟨_, _, _, rfl⟩, ?_, _, upd_same, (hK.put _ (by omega)).congr (step_add hkv hxj c1 c2)⟩
      · obtain ⟨e, a', b', v', p, x', _, r1, r2, r3, r4, rfl⟩ := hk
        obtain ⟨a2, b2, v2, e2, _, hB2⟩ := hB _ (List.mem_of_getElem? r1)
        obtain ⟨e3, e4⟩ := keyN_inj (congrArg Prod.fst e2)
        subst e3 e4
        have := hB2 x' (List.mem_of_getElem? r2)
        exact ⟨_, _, rfl, this.1 r3, this.2 r4⟩
      · exact sx4.upd
    · obtain ⟨⟨_, _, _, rfl⟩, sx, kvs', hk', hK⟩ := p
      rw [List.length_map, lp] at hK
      exact ⟨⟨_, _, _, _, _, _, rfl⟩, sx, kvs', hk', hK.congr step_next⟩
  · obtain ⟨⟨_, _, _, _, _, _, rfl⟩, sx, kvs', hk', hK⟩ := p
    refine ⟨sx _ _ hF nd, _, rfl, q lt _ kvs' (fun b u e => ?_) (by rw [upd_ne nd.symm]; exact hk') hK⟩
    by_cases hbd : b = d
    · rw [hbd, upd_same]
      rw [hbd, hd] at e
      exact e
    · rw [upd_ne hbd]
      exact sx _ _ (sL _ _ e hbd) (ne_of_none e hlt)
/-- the pairs of a row's step -/
def prsOf (rs : Rows) (row : List Nat) : List (Nat × Nat) := (List.range rs.length).map fun c => (2 ^ c, 2 ^ row.getD c 0)
theorem step_path {rs : Rows} {i : Nat} {row : List Nat} {kvs : List (List Key × V)} (L : Lat rs) (hr : rs[i]? = some row) (hK : KeysOk kvs (PathK rs i)) (k : List Key) : StepK kvs (prsOf rs row) kvs.length 0 k ↔ PathK rs (i + 1) k := by
  constructor
  · rintro ⟨e, a, b, v, p, x, _, h1, h2, h3, h4, rfl⟩
    obtain ⟨C, S, e1, hp⟩ := (hK.mem (keyN a b)).mp (List.mem_map.mpr ⟨_, List.mem_of_getElem? h1, rfl⟩)
    obtain ⟨rfl, rfl⟩ := keyN_inj e1
    unfold prsOf at h2
    rw [List.getElem?_map] at h2
    obtain ⟨c, hc, rfl⟩ := Option.map_eq_some_iff.mp h2
    have hcn : c < rs.length := List.mem_range.mp (List.mem_of_getElem? hc)
    have U := hp.used L
    exact ⟨c :: C, row.getD c 0 :: S, rfl, c, C, S, row, rfl, rfl, hr, hcn, (msk_free U.c).mp h3, (msk_free U.s).mp h4, hp⟩
  · rintro ⟨_, _, rfl, c, C, S, row', rfl, rfl, h1, h2, h3, h4, hp⟩
    rw [hr] at h1
    cases h1
    obtain ⟨kv, hkv, e⟩ := List.mem_map.mp ((hK.mem (keyOf C S)).mpr ⟨C, S, rfl, hp⟩)
    obtain ⟨j, hj⟩ := List.mem_iff_getElem?.mp hkv
    have U := hp.used L
    refine ⟨j, msk C, msk S, kv.2, c, (2 ^ c, 2 ^ row.getD c 0), .inl (List.getElem?_eq_some_iff.mp hj).1, ?_, ?_, (msk_free U.c).mpr h3, (msk_free U.s).mpr h4, rfl⟩
    · rw [hj, ← show kv.1 = keyN (msk C) (msk S) from e]
    · unfold prsOf
      rw [List.getElem?_map, List.getElem?_range h2]
      rfl
def spCounted : Sp := fun vs H Q _ => ∃ (a : Addr) (rs : Rows), vs = [.ref a, .non, .non] ∧ TupR H a rs ∧ Lat rs ∧ rs.length ≤ 9 ∧ ∀ (c : Int) H', (c = 0 ↔ ¬ HasX rs) → Same H H' → Q (.int c) H'
theorem sum_zero : ∀ (l : List Int), (∀ x ∈ l, 1 ≤ x) → 0 ≤ l.sum ∧ (l.sum = 0 ↔ l = [])
  | [], _ => by simp
  | x :: l, h => by
    obtain ⟨h1, _⟩ := sum_zero l fun y hy => h y (List.mem_cons_of_mem _ hy)
    have h2 := h x List.mem_cons_self
    rw [List.sum_cons]
    exact ⟨by omega, by constructor <;> intro z; · omega
                        · cases z⟩
theorem sc_counted : FnScope ["rows", "told_row", "told_column", "weights", "states", "at", "row", "some", "column"] ["rows", "told_row", "told_column"] (defScope (top 36)) := ⟨rfl, rfl, rfl, by decide +kernel, rfl, by decide +kernel, by decide +kernel⟩
theorem ok_counted (T : Txt K mg) (c_weights_of : Cal P w K mg base 2 "weights_of" spWeights) (c_stepped : Cal P w K mg base 3 "stepped" spStepped) : CalD P w K mg base 5 "counted" [.non, .non] spCounted := by
  obtain ⟨fd, F⟩ := T.f_counted
  obtain ⟨ds, hds, hB⟩ := F.binds1 (ps := ["rows", "told_row", "told_column"]) 1 0 (by simp) rfl fun T kV doc pm an cdv ct us its h1 h2 => match us, its, h1, h2 with | [_], [_, _], _, _ => ⟨_, rfl, rfl⟩
  refine ⟨_, fd, _, ds, T.g_counted, F.kp, hB, hds, F.ok sc_counted (fun vs H Q E h => by obtain ⟨_, _, rfl, _⟩ := h; rfl) fun cdv A outer s H vs Q E hr h => ?_⟩
  suffices z : ∃ t, PSs (cxOf CX0 P w K mg base ["rows", "told_row", "told_column", "weights", "states", "at", "row", "some", "column"] "counted" (defScope (top 36)) (He.ga K "counted") cdv A outer s H E).nox (defBody (top 36)) t ∧ t { nx := fun _ H' => Q .non H', rt := Q } (start ["rows", "told_row", "told_column", "weights", "states", "at", "row", "some", "column"] vs) H from let ⟨t, z1, z2⟩ := z; ⟨t, z1.nox, z2⟩
  obtain ⟨a, rs, rfl, ⟨ps, ha, hE⟩, L, h9, q⟩ := h
  have lp := hE.length
  refine ⟨_, (pss_cons (ps_set (i := 3) sc_counted.nd rfl (Or.inr rfl) (pe_cal c_weights_of (hr.mono (by decide)) (pa_cons (pe_callB (lenK (K := K) rfl) (by rfl) T.z_len (by decide +kernel) (pa_cons (pv 0) pa_nil)) pa_nil)))
      (pss_cons (ps_set (i := 4) sc_counted.nd rfl (Or.inl rfl) (pe_dispT1 (hu_of hr) (pe_tup (pa_cons (pe_int) (pa_cons (pe_int) pa_nil))) (pe_int)))
      (pss_cons (ps_for PassesOwn.never rfl (pi_enumT (by rfl) T.z_enumerate (pa_cons (pv 0) pa_nil)) (pgTup (K := K) (n := 2) rfl rfl (pgs_cons (pg_name (i := 5) sc_counted.nd rfl (Or.inl rfl)) (pgs_cons (pg_name (i := 6) sc_counted.nd rfl (Or.inr rfl)) pgs_nil))) (pss_cons (ps_set (i := 7) sc_counted.nd rfl (Or.inl rfl) (pe_ifExp (pt_cmpR op_eq (pv 5) (pv 1) (nomark _)) (pe_lst (pa_cons (pv 2) pa_nil)) (pe_listRg rfl (by rfl) T.z_list (prg_1 (by rfl) T.z_range (pe_callB (lenK (K := K) rfl) (by rfl) T.z_len (by decide +kernel) (pa_cons (pv 0) pa_nil))))))
      (pss_one (ps_set (i := 4) sc_counted.nd rfl (Or.inl rfl) (pe_cal c_stepped (hr.mono (by decide)) (pa_cons (pv 4) (pa_cons (pe_lc (own := [("column", 8)]) rfl sc_counted.nd (piL (K := K) rfl (pv 7)) (blkOk_by (own := [("column", 8)]) (N := ["rows", "told_row", "told_column", "weights", "states", "at", "row", "some", "column"]) (sc := defScope (top 36)) (by first | decide +kernel | kernel_rfl | rfl)) (fun _ _ _ _ _ => (pg_name (i := 8) sc_counted.nd rfl (Or.inl rfl))) (fun _ _ _ _ _ => pts_nil) (fun _ _ _ _ _ => (pe_tup (pa_cons (pe_ix (ixL (K := K) rfl) (pv 3) (pv 8) (fun _ _ => rfl)) (pa_cons (pe_ix (ixL (K := K) rfl) (pv 3) (pe_ix (ixT (K := K) rfl) (pv 6) (pv 8) (fun _ _ => rfl)) (fun _ _ => rfl)) pa_nil))))) pa_nil)))))))
      (pss_one (ps_ret (pe_sumVals (by rfl) T.z_sum (pv 4))))))), ?_⟩
  refine ⟨_, rfl, a, _, rfl, .inr (SqT.of ha), rs.length, by rw [List.length_map, lp]; rfl, by omega, fun wt H1 s1 hwt lw => ?_⟩
  refine fun st hst => ?_
  have s2 := same_upd (o := .dT []) hst
  refine ⟨(by decide : 2 ≤ sizeLine), fun kp hkp => ?_⟩
  have nsk : st ≠ kp := fun z => by rw [z, upd_same] at hkp; cases hkp
  refine ⟨by rw [upd_ne nsk]; exact upd_same, keyN 0 0, kp, rfl, upd_same, ?_⟩
  have s3 : Same H1 (upd (upd (upd H1 st (.dT [])) kp (.tup [V.int 0, V.int 0])) st (.dT [(keyN 0 0, V.int 1)])) := fun b u e => by
    have hk1 : H1 kp = none := by rw [upd_ne nsk.symm] at hkp; exact hkp
    rw [upd_ne (ne_of_none e hst), upd_ne (ne_of_none e hk1), upd_ne (ne_of_none e hst)]
    exact e
  have h3 : (upd (upd (upd H1 st (.dT [])) kp (.tup [V.int 0, V.int 0])) st (.dT [(keyN 0 0, V.int 1)])) st = some (.dT [(keyN 0 0, V.int 1)]) := upd_same
  generalize upd (upd (upd H1 st (.dT [])) kp (.tup [V.int 0, V.int 0])) st (.dT [(keyN 0 0, V.int 1)]) = H3 at s3 h3
  have s13 : Same H H3 := fun b u e => s3 _ _ (s1 _ _ e)
  have lw3 : LstN H3 wt ((List.range (rs.length + 1)).map fun i => 2 ^ i) := s3 _ _ lw
  refine ⟨_, rfl, a, _, rfl, SqT.of (s13 _ _ ha), ?_⟩
  refine for_it walk_enumT (fun i σ H' => (∃ st kvs x y z u, σ = [some (.ref a), some .non, some .non, some (.ref wt), some (.ref st), x, y, z, u] ∧ H' st = some (.dT kvs) ∧ KeysOk kvs (PathK rs i)) ∧ Same H3 H') ⟨⟨st, _, _, _, _, _, rfl, h3, by simp, fun k => ?_, fun kv hkv => ?_⟩, sRefl⟩ (fun i σ H' _ p => SqT.of (p.2 _ _ (s13 _ _ ha))) (fun i x σ H4 H5 hi p y => ?_) (fun σ H' p => ?_)
  · constructor
    · intro z
      have : k = keyN 0 0 := by simpa using z
      exact ⟨[], [], this, rfl, rfl⟩
    · rintro ⟨C, S, rfl, rfl, rfl⟩
      simp [keyOf, msk]
  · rw [List.mem_singleton.mp hkv]
    exact ⟨1, rfl, Int.le_refl _⟩
  · obtain ⟨⟨st, kvs, _, _, _, _, rfl, hst, hK⟩, s4⟩ := p
    obtain ⟨Tp, x1, x2, rfl, hT, rfl, e1, e2⟩ := y
    cases e1
    have e3 : (ps.map V.ref)[i]? = some x2 := e2
    obtain ⟨qr, row, rfl, hrow, tr⟩ := hE.refs e3
    have mrow := List.mem_of_getElem? hrow
    have prow := perm_lt (L.row row mrow)
    have s5 := same_upd (o := .tup [vn i, .ref qr]) hT
    have s35 : Same H3 (upd H4 Tp (.tup [vn i, .ref qr])) := fun b u e => s5 _ _ (s4 _ _ e)
    have hst5 := s5 _ _ hst
    refine ⟨Tp, _, rfl, SqT.of upd_same, rfl, _, _, rfl, _, _, rfl, rfl, ?_⟩
    generalize upd H4 Tp (.tup [vn i, .ref qr]) = H5 at s5 s35 hst5
    refine ⟨_, rfl, _, rfl, rfl, _, rfl, ?_⟩
    rw [decide_eq_false (fun z => nomatch z)]
    refine iteF ⟨_, rfl, a, _, rfl, .inr (SqT.of (s35 _ _ (s13 _ _ ha))), _, rfl, ?_⟩
    rw [List.length_map, lp]
    refine ⟨RgOk.n (by omega), fun sm hsm => ?_⟩
    rw [rgN]
    have s6 := same_upd (o := .lst ((List.range rs.length).map vn)) hsm
    have hsm6 : upd H5 sm (.lst ((List.range rs.length).map vn)) sm = some (.lst ((List.range rs.length).map vn)) := upd_same
    have hst6 := s6 _ _ hst5
    have s36 : Same H3 (upd H5 sm (.lst ((List.range rs.length).map vn))) := fun b u e => s6 _ _ (s35 _ _ e)
    generalize upd H5 sm (.lst ((List.range rs.length).map vn)) = H6 at s6 hsm6 hst6 s36
    refine ⟨_, rfl, _, rfl, sm, rfl, ⟨_, SqL.of hsm6⟩, fun D hD => ?_⟩
    have wat : ∀ c, c < rs.length → atI (((List.range (rs.length + 1)).map fun i => 2 ^ i).map vn) (c : Int) = some (vn (2 ^ c)) := fun c hc => by
      refine atV ?_
      rw [List.getElem?_map, List.getElem?_map, List.getElem?_range (by omega)]
      rfl
    refine lc_gen walk_list (by rw [List.length_map, List.length_range]; omega) hD (fun H' s' => SqL.of (s' _ _ hsm6)) (fun H' k y => ∃ q, y = .ref q ∧ q ≠ D ∧ Pr2 H' q (2 ^ k, 2 ^ row.getD k 0)) (fun H0 H' k y sx ⟨p, e, n, t⟩ => ⟨p, e, n, sx _ _ t n⟩) (fun k x H0 H' acc Kf hk s' hacc hy hKf => ?_) (fun ys H' s' hy ly hr' => ?_)
    · obtain ⟨rfl, hx⟩ := hy
      rw [List.length_map, List.length_range] at hk
      rw [List.getElem?_map, List.getElem?_range hk] at hx
      cases hx
      have s3' : Same H3 H' := fun b u e => s' _ _ (s36 _ _ e)
      have hlt : row.getD k 0 < rs.length := by
        rw [List.getD_eq_getElem?_getD, List.getElem?_eq_getElem (by omega)]
        exact prow.2 _ (List.getElem_mem _)
      refine ⟨rfl, _, rfl, _, rfl, wt, _, _, _, rfl, rfl, SqL.of (s3' _ _ lw3), wat k hk, _, rfl, _, rfl, _, rfl, qr, _, _, _, rfl, rfl, SqT.of (s3' _ _ (s13 _ _ tr)), atN (by omega), wt, _, _, _, rfl, rfl, SqL.of (s3' _ _ lw3), wat _ hlt, (by decide : 2 ≤ sizeLine), fun p hp => hKf _ _ (same_upd hp) ⟨p, rfl, fun z => ?_, upd_same⟩⟩
      rw [z, hacc] at hp
      cases hp
    · rw [List.length_map, List.length_range] at ly
      obtain ⟨qs, e, hQ⟩ := each_of (RR := Pr2) ys (fun k => (2 ^ k, 2 ^ row.getD k 0)) fun k y e => let ⟨p, h1, _, h2⟩ := hr' k y e; ⟨p, h1, h2⟩
      rw [ly] at hQ
      have s3' : Same H3 H' := fun b u e => s' _ _ (s36 _ _ e)
      refine ⟨st, D, kvs, qs, prsOf rs row, rfl, s' _ _ hst6, by rw [hy, e], hQ, fun kv hkv => ?_, fun lt H7 kvs7 s7 h7 hK7 => ?_⟩
      · obtain ⟨v, hv, hv1⟩ := hK.val kv hkv
        obtain ⟨C, S, ek, hp⟩ := (hK.mem kv.1).mp (List.mem_map_of_mem hkv)
        have U := hp.used L
        refine ⟨msk C, msk S, v, by rw [← hv, ← show kv.1 = keyN (msk C) (msk S) from ek], hv1, fun x hx => ?_⟩
        obtain ⟨c, hc, rfl⟩ := List.mem_map.mp hx
        have hc := List.mem_range.mp hc
        have hlt : row.getD c 0 < rs.length := by
          rw [List.getD_eq_getElem?_getD, List.getElem?_eq_getElem (by omega)]
          exact prow.2 _ (List.getElem_mem _)
        have big : ∀ {D : List Nat} {d : Nat}, D.Nodup → (∀ x ∈ D, x < rs.length) → d < rs.length → msk D &&& 2 ^ d = 0 → msk D + 2 ^ d < 512 := fun {D d} n1 n2 n3 n4 => by
          have nd := List.nodup_cons.mpr ⟨(msk_free n1).mp n4, n1⟩
          have := msk_lt nd (n := rs.length) (fun x hx => by rcases List.mem_cons.mp hx with rfl | hx; exact n3; exact n2 x hx)
          have p9 : 2 ^ rs.length ≤ 2 ^ 9 := Nat.pow_le_pow_right (by decide) h9
          have e9 : 2 ^ 9 = 512 := by decide
          exact Nat.lt_of_lt_of_le (show msk (d :: D) < _ from this) (by omega)
        exact ⟨big U.c U.cb hc, big U.s U.sb hlt⟩
      · exact ⟨⟨lt, kvs7, _, _, _, _, rfl, h7, hK7.congr (step_path L hrow hK)⟩, fun b u e => s7 _ _ (s3' _ _ e)⟩
  · obtain ⟨⟨st, kvs, _, _, _, _, rfl, hst, hK⟩, s4⟩ := p
    rw [List.length_map, lp] at hK
    obtain ⟨ns, hns, hn1⟩ : ∃ ns : List Int, kvs.map (·.2) = ns.map V.int ∧ ∀ x ∈ ns, 1 ≤ x := by
      have hv := hK.val
      clear hK hst
      induction kvs with
      | nil => exact ⟨[], rfl, by simp⟩
      | cons kv r ih =>
        obtain ⟨ns, e, h1⟩ := ih fun kv h => hv kv (List.mem_cons_of_mem _ h)
        obtain ⟨v, e2, h2⟩ := hv kv List.mem_cons_self
        exact ⟨v :: ns, by rw [List.map_cons, List.map_cons, e, e2], fun x hx => by rcases List.mem_cons.mp hx with rfl | hx; exact h2; exact h1 x hx⟩
    refine ⟨_, rfl, st, kvs, rfl, hst, ns, hns, q _ _ ?_ fun b u e => s4 _ _ (s13 _ _ e)⟩
    rw [(sum_zero ns hn1).2, ← path_end]
    have l1 : ns.length = kvs.length := by have z := congrArg List.length hns; simpa using z.symm
    constructor
    · rintro rfl ⟨C, S, hp⟩
      have := (hK.mem (keyOf C S)).mpr ⟨C, S, rfl, hp⟩
      have hk0 : kvs = [] := List.eq_nil_of_length_eq_zero (by simpa using l1.symm)
      rw [hk0] at this
      simp at this
    · intro no
      refine List.eq_nil_of_length_eq_zero ?_
      rw [l1]
      cases kvs with
      | nil => rfl
      | cons kv r =>
        obtain ⟨C, S, _, hp⟩ := (hK.mem kv.1).mp (by simp)
        exact absurd ⟨C, S, hp⟩ no
def spTrans (K : PySem.W.Frag) : Sp := fun vs H Q _ => ∃ (t : Addr) (rs : Rows), vs = [.ref t] ∧ TabAt K H t rs ∧ Lat rs ∧ rs.length ≤ 9 ∧ ∀ (c : Int) H', (c = 0 ↔ ¬ HasX rs) → Same H H' → Q (.int c) H'
theorem sc_transversals_counted : FnScope ["table"] ["table"] (defScope (top 38)) := ⟨rfl, rfl, rfl, by decide +kernel, rfl, by decide +kernel, by decide +kernel⟩
theorem ok_transversals_counted (T : Txt K mg) (c_counted : CalD P w K mg base 5 "counted" [.non, .non] spCounted) : Cal P w K mg base (6) "transversals_counted" (spTrans K) := by
  obtain ⟨fd, F⟩ := T.f_transversals_counted
  refine cal_of T.g_transversals_counted F sc_transversals_counted (fun vs H Q E h => by first | (obtain ⟨_, rfl, _⟩ := h; rfl) | (obtain ⟨_, _, rfl, _⟩ := h; rfl) | (obtain ⟨_, _, _, rfl, _⟩ := h; rfl) | (obtain ⟨_, _, _, _, rfl, _⟩ := h; rfl) | (obtain ⟨_, _, _, _, _, rfl, _⟩ := h; rfl) | (obtain ⟨_, _, _, _, _, _, rfl, _⟩ := h; rfl) | (obtain ⟨_, _, _, _, _, _, _, rfl, _⟩ := h; rfl) | (obtain ⟨_, _, _, _, _, _, _, _, rfl, _⟩ := h; rfl)) (fun _ _ _ _ _ _ us hl => match us, hl with | [_], _ => rfl) (fun cdv A outer s H vs Q E hr h => ?_)
  obtain ⟨t, rs, rfl, ⟨dx, p1, p2, r, hS, hT⟩, L, h9, q⟩ := h
  refine ⟨_, (pss_one (ps_ret (pe_calD c_counted (hr.mono (by decide)) (pa_cons (peSl (K := K) rfl (pv 0)) pa_nil)))), ?_⟩
  exact ⟨_, rfl, t, _, dx, _, _, _, .ref r, rfl, hS, T.s_Table, T.l_Table_own_rows, rfl, r, rs, rfl, hT, L, h9, q⟩
theorem sc_count_transversals : FnScope ["table"] ["table"] (defScope (top 40)) := ⟨rfl, rfl, rfl, by decide +kernel, rfl, by decide +kernel, by decide +kernel⟩
theorem ok_count_transversals (T : Txt K mg) (c_transversals_counted : Cal P w K mg base 6 "transversals_counted" (spTrans K)) (c_require_table : Cal P w K mg base 3 "require_table" (spReqTable K)) (c_require_small : Cal P w K mg base 3 "require_small" (spReqSmall K)) : Cal P w K mg base (7) "count_transversals" (spTrans K) := by
  obtain ⟨fd, F⟩ := T.f_count_transversals
  obtain ⟨_, hMOST_COUNTED⟩ := T.i_MOST_COUNTED
  refine cal_of T.g_count_transversals F sc_count_transversals (fun vs H Q E h => by first | (obtain ⟨_, rfl, _⟩ := h; rfl) | (obtain ⟨_, _, rfl, _⟩ := h; rfl) | (obtain ⟨_, _, _, rfl, _⟩ := h; rfl) | (obtain ⟨_, _, _, _, rfl, _⟩ := h; rfl) | (obtain ⟨_, _, _, _, _, rfl, _⟩ := h; rfl) | (obtain ⟨_, _, _, _, _, _, rfl, _⟩ := h; rfl) | (obtain ⟨_, _, _, _, _, _, _, rfl, _⟩ := h; rfl) | (obtain ⟨_, _, _, _, _, _, _, _, rfl, _⟩ := h; rfl)) (fun _ _ _ _ _ _ us hl => match us, hl with | [_], _ => rfl) (fun cdv A outer s H vs Q E hr h => ?_)
  obtain ⟨t, rs, rfl, hT, L, h9, q⟩ := h
  refine ⟨_, (pss_cons (ps_expr (pe_cal c_require_table (hr.mono (by decide)) (pa_cons (pv 0) pa_nil)))
      (pss_cons (ps_expr (pe_cal c_require_small (hr.mono (by decide)) (pa_cons (pv 0) (pa_cons (pe_glob (v := .int 9) (by rfl) hMOST_COUNTED ⟨_, rfl⟩) pa_nil))))
      (pss_one (ps_ret (pe_cal c_transversals_counted (hr.mono (by decide)) (pa_cons (pv 0) pa_nil)))))), ?_⟩
  refine ⟨_, rfl, t, rs, rfl, hT, ?_⟩
  refine ⟨_, rfl, t, rs, 9, rfl, hT, h9, ?_⟩
  exact ⟨_, rfl, t, rs, rfl, hT, L, h9, q⟩
end
end K61

set_option Elab.async false
set_option maxRecDepth 100000
set_option maxHeartbeats 4000000
namespace K61
open PySem PySem.Spec PyProof.Rows L2
section
variable {P : Program} {w : World} {K : PySem.W.Frag} {mg : Str → Option Value} {base : Heap}
def spHalves (K : PySem.W.Frag) : Sp := fun vs H Q _ => ∃ (x dx : Addr) (H0 : Hp) (n : Nat), vs = [.ref x, vn n] ∧ H = upd (upd H0 dx (.own x)) x (.ins (He.ga K "Halves") dx []) ∧ H0 x = none ∧ H0 dx = none ∧ dx ≠ x ∧ n ≤ 12 ∧
  ∀ H' dd, Same H0 H' → H0 dd = none → HalvesAt K H' x dd n [] → Q .non H'
theorem sc_Halves_init : FnScope ["self", "order"] ["self", "order"] (defScope (inClass (top 44) 1)) := ⟨rfl, rfl, rfl, by decide +kernel, rfl, by decide +kernel, by decide +kernel⟩
theorem ok_Halves_init (T : Txt K mg) (c_weights_of : Cal P w K mg base 2 "weights_of" spWeights) : FnR P w K mg base CX0 (4) (He.ma K (He.ga K "Halves") "__init__") (spHalves K) := by
  obtain ⟨fd, F⟩ := T.f_Halves_init
  refine met_of F sc_Halves_init (fun vs H Q E h => by first | (obtain ⟨_, rfl, _⟩ := h; rfl) | (obtain ⟨_, _, rfl, _⟩ := h; rfl) | (obtain ⟨_, _, _, rfl, _⟩ := h; rfl) | (obtain ⟨_, _, _, _, rfl, _⟩ := h; rfl) | (obtain ⟨_, _, _, _, _, rfl, _⟩ := h; rfl) | (obtain ⟨_, _, _, _, _, _, rfl, _⟩ := h; rfl) | (obtain ⟨_, _, _, _, _, _, _, rfl, _⟩ := h; rfl) | (obtain ⟨_, _, _, _, _, _, _, _, rfl, _⟩ := h; rfl)) (fun _ _ _ _ _ _ us hl => match us, hl with | [_, _], _ => rfl) (fun cdv A outer s H vs Q E hr h => ?_)
  obtain ⟨x, dx, H0, n, rfl, rfl, hx, hdx, hne, h12, q⟩ := h
  refine ⟨_, (pss_cons (SlX.ps_sl (pv 0) (pv 1))
      (pss_cons (SlX.ps_sl (pv 0) (pe_dnewK))
      (pss_cons (SlX.ps_sl (pv 0) (pe_cal c_weights_of (hr.mono (by decide)) (pa_cons (pv 1) pa_nil)))
      (pss_one (SlX.ps_sl (pv 0) (pe_ix (ixL (K := K) rfl) (peSl (K := K) rfl (pv 0)) (pv 1) (fun _ _ => rfl))))))), ?_⟩
  have s0 : Same H0 (upd (upd H0 dx (.own x)) x (.ins (He.ga K "Halves") dx [])) := same_mk hx hdx
  have k0 : SlX.Slt (upd (upd H0 dx (.own x)) x (.ins (He.ga K "Halves") dx [])) x (He.ga K "Halves") dx [] := .inl ⟨upd_same, rfl⟩
  generalize upd (upd H0 dx (.own x)) x (.ins (He.ga K "Halves") dx []) = H1 at s0 k0 ⊢
  refine ⟨_, rfl, _, rfl, x, _, dx, _, _, _, rfl, k0, T.s_Halves, T.l_Halves_own_order, ?_⟩
  have s1 : Same H0 (SlX.slH H1 x (He.ga K "Halves") dx [none, some (vn n)]) := Same.sl s0 hx hdx
  have k1 : SlX.Slt (SlX.slH H1 x (He.ga K "Halves") dx [none, some (vn n)]) x (He.ga K "Halves") dx [none, some (vn n)] := SlX.slH_slt hne
  have hx1 : (SlX.slH H1 x (He.ga K "Halves") dx [none, some (vn n)]) x ≠ none := by rw [show SlX.slH _ x _ dx _ x = some _ from upd_same]; exact fun z => nomatch z
  have hd1 : (SlX.slH H1 x (He.ga K "Halves") dx [none, some (vn n)]) dx ≠ none := by unfold SlX.slH; rw [upd_ne hne, upd_same]; exact fun z => nomatch z
  rw [show SlX.putS 1 (vn n) ([] : List (Option V)) = [none, some (vn n)] from rfl]
  generalize SlX.slH H1 x (He.ga K "Halves") dx [none, some (vn n)] = H2 at s1 k1 hx1 hd1 ⊢
  refine fun dd hdd => ?_
  have n1 : dd ≠ x := fun z => hx1 (by rw [← z]; exact hdd)
  have n2 : dd ≠ dx := fun z => hd1 (by rw [← z]; exact hdd)
  have hd0 : H0 dd = none := s1.free hdd
  have s2 := same_upd (o := .dK []) hdd
  have s2' : Same H0 (upd H2 dd (.dK [])) := fun b u e => s2 _ _ (s1 _ _ e)
  have d2 : upd H2 dd (.dK []) dd = some (.dK []) := upd_same
  have k2 := Slt.mono k1 s2
  refine ⟨_, rfl, x, _, dx, _, _, _, rfl, k2, T.s_Halves, T.l_Halves_own_rows, ?_⟩
  generalize upd H2 dd (.dK []) = H3 at s2 s2' d2 ⊢
  have s3 : Same H0 (SlX.slH H3 x (He.ga K "Halves") dx [none, some (vn n), some (.ref dd)]) := Same.sl s2' hx hdx
  have k3 : SlX.Slt (SlX.slH H3 x (He.ga K "Halves") dx [none, some (vn n), some (.ref dd)]) x (He.ga K "Halves") dx [none, some (vn n), some (.ref dd)] := SlX.slH_slt hne
  have d3 : SlX.slH H3 x (He.ga K "Halves") dx [none, some (vn n), some (.ref dd)] dd = some (.dK []) := by rw [SlX.slH_ne n1 n2]; exact d2
  have hx3 : (SlX.slH H3 x (He.ga K "Halves") dx [none, some (vn n), some (.ref dd)]) x ≠ none := by rw [show SlX.slH _ x _ dx _ x = some _ from upd_same]; exact fun z => nomatch z
  have hd3 : (SlX.slH H3 x (He.ga K "Halves") dx [none, some (vn n), some (.ref dd)]) dx ≠ none := by unfold SlX.slH; rw [upd_ne hne, upd_same]; exact fun z => nomatch z
  rw [show SlX.putS 2 (V.ref dd) [none, some (vn n)] = [none, some (vn n), some (.ref dd)] from rfl]
  generalize SlX.slH H3 x (He.ga K "Halves") dx [none, some (vn n), some (.ref dd)] = H4 at s3 k3 d3 hx3 hd3 ⊢
  refine ⟨_, rfl, n, rfl, by omega, fun wt H5 s5 hwt lw => ?_⟩
  have n3 : wt ≠ x := fun z => hx3 (by rw [← z]; exact hwt)
  have n4 : wt ≠ dx := fun z => hd3 (by rw [← z]; exact hwt)
  have s5' : Same H0 H5 := fun b u e => s5 _ _ (s3 _ _ e)
  refine ⟨_, rfl, x, _, dx, _, _, _, rfl, Slt.mono k3 s5, T.s_Halves, T.l_Halves_own_weights, ?_⟩
  have s6 : Same H0 (SlX.slH H5 x (He.ga K "Halves") dx [none, some (vn n), some (.ref dd), some (.ref wt)]) := Same.sl s5' hx hdx
  have k6 : SlX.Slt (SlX.slH H5 x (He.ga K "Halves") dx [none, some (vn n), some (.ref dd), some (.ref wt)]) x (He.ga K "Halves") dx [none, some (vn n), some (.ref dd), some (.ref wt)] := SlX.slH_slt hne
  have w6 : LstN (SlX.slH H5 x (He.ga K "Halves") dx [none, some (vn n), some (.ref dd), some (.ref wt)]) wt ((List.range (n + 1)).map fun i => 2 ^ i) := by
    show SlX.slH _ _ _ _ _ _ = _
    rw [SlX.slH_ne n3 n4]; exact lw
  have d6 : SlX.slH H5 x (He.ga K "Halves") dx [none, some (vn n), some (.ref dd), some (.ref wt)] dd = some (.dK []) := by rw [SlX.slH_ne n1 n2]; exact s5 _ _ d3
  rw [show SlX.putS 3 (V.ref wt) [none, some (vn n), some (.ref dd)] = [none, some (vn n), some (.ref dd), some (.ref wt)] from rfl]
  generalize SlX.slH H5 x (He.ga K "Halves") dx [none, some (vn n), some (.ref dd), some (.ref wt)] = H6 at s6 k6 w6 d6 ⊢
  refine ⟨_, rfl, x, _, dx, _, _, _, .ref wt, rfl, k6, T.s_Halves, T.l_Halves_own_weights, rfl, _, rfl, wt, _, _, vn (2 ^ n), rfl, rfl, SqL.of w6, wat (Nat.le_refl _), ?_⟩
  refine ⟨_, rfl, x, _, dx, _, _, _, rfl, k6, T.s_Halves, T.l_Halves_own_end, ?_⟩
  refine q _ dd (Same.sl s6 hx hdx) hd0 ⟨dx, wt, SlX.slH_slt hne, ?_, ?_⟩
  · show SlX.slH _ _ _ _ _ _ = _
    rw [SlX.slH_ne n3 n4]; exact w6
  · rw [SlX.slH_ne n1 n2]; exact d6
def spIsPut (K : PySem.W.Frag) : Sp := fun vs H Q _ => ∃ (x dd sl : Addr) (n : Nat) (D : Tb) (signs : List Nat) (bit : Nat), vs = [.ref x, .ref sl, vn bit] ∧ HalvesAt K H x dd n D ∧ Good n D ∧ n ≤ 12 ∧ H sl = some (.lst (signs.map vn)) ∧ signs.length ≤ 3 ∧ (∀ s ∈ signs, s < n) ∧ bit ≤ 1 ∧
  ∀ H' D' ok, SameX dd H H' → HalvesAt K H' x dd n D' → Ran n D (eqOf n signs bit) (D', ok) → Q (.bl ok) H'
theorem sc_Halves_is_put : FnScope ["self", "signs", "bit", "equation", "sign"] ["self", "signs", "bit"] (defScope (inClass (top 44) 2)) := ⟨rfl, rfl, rfl, by decide +kernel, rfl, by decide +kernel, by decide +kernel⟩
theorem ok_Halves_is_put (T : Txt K mg)  : FnR P w K mg base CX0 (3) (He.ma K (He.ga K "Halves") "is_put") (spIsPut K) := by
  obtain ⟨fd, F⟩ := T.f_Halves_is_put
  refine met_of F sc_Halves_is_put (fun vs H Q E h => by first | (obtain ⟨_, rfl, _⟩ := h; rfl) | (obtain ⟨_, _, rfl, _⟩ := h; rfl) | (obtain ⟨_, _, _, rfl, _⟩ := h; rfl) | (obtain ⟨_, _, _, _, rfl, _⟩ := h; rfl) | (obtain ⟨_, _, _, _, _, rfl, _⟩ := h; rfl) | (obtain ⟨_, _, _, _, _, _, rfl, _⟩ := h; rfl) | (obtain ⟨_, _, _, _, _, _, _, rfl, _⟩ := h; rfl) | (obtain ⟨_, _, _, _, _, _, _, _, rfl, _⟩ := h; rfl)) (fun _ _ _ _ _ _ us hl => match us, hl with | [_, _, _], _ => rfl) (fun cdv A outer s H vs Q E hr h => ?_)
  obtain ⟨x, dd, sl, n, D, signs, bit, rfl, ⟨dx, wt, hS, hW, hd⟩, hG, h12, hsl, h3, hs, hb, q⟩ := h
  have hran := put_ran hG hs hb
  refine ⟨_, (pss_cons (ps_set (i := 3) sc_Halves_is_put.nd rfl (Or.inl rfl) (pe_op op_mul (peSl (K := K) rfl (pv 0)) (pv 2)))
      (pss_cons (ps_for PassesOwn.never rfl (piL (K := K) rfl (pv 1)) (pg_name (i := 4) sc_Halves_is_put.nd rfl (Or.inl rfl)) (pss_one (ps_set (i := 3) sc_Halves_is_put.nd rfl (Or.inl rfl) (pe_op op_xor (pv 3) (pe_ix (ixL (K := K) rfl) (peSl (K := K) rfl (pv 0)) (pv 4) (fun _ _ => rfl))))))
      (pss_cons (ps_for PassesOwn.never rfl (pi_range1 (by rfl) T.z_range (pa_cons (peSl (K := K) rfl (pv 0)) pa_nil)) (pg_name (i := 4) sc_Halves_is_put.nd rfl (Or.inl rfl)) (pss_one (ps_if (pt_cmpR op_gt (pe_op op_and (pv 3) (pe_ix (ixL (K := K) rfl) (peSl (K := K) rfl (pv 0)) (pv 4) (fun _ _ => rfl))) (pe_int) (nomark _)) (pss_cons (ps_if (pt_cmp (pc_dnotin (hu_of hr) (pv 4) (peSl (K := K) rfl (pv 0)))) (pss_cons (ps_dput (hu_of hr) (peSl (K := K) rfl (pv 0)) (pv 4) (pv 3) rfl)
      (pss_one (ps_ret (pe_bl)))) pss_nil)
      (pss_one (ps_set (i := 3) sc_Halves_is_put.nd rfl (Or.inl rfl) (pe_op op_xor (pv 3) (pe_dget (hu_of hr) (peSl (K := K) rfl (pv 0)) (pv 4) (fun _ _ => rfl)))))) pss_nil)))
      (pss_one (ps_ret (pe_cmpR op_eq (pv 3) (pe_int) (nomark _))))))), ?_⟩
  refine ⟨_, rfl, x, _, dx, _, _, _, vn (2 ^ n), rfl, hS, T.s_Halves, T.l_Halves_own_end, rfl, _, rfl, _, _, rfl, rfl, .inr ⟨by omega, by omega⟩, ?_⟩
  refine ⟨_, rfl, sl, rfl, ⟨_, SqL.of hsl⟩, ?_⟩
  refine for_it walk_list (fun i σ H' => H' = H ∧ ∃ a, σ = [some (.ref x), some (.ref sl), some (vn bit), some (vn ((signs.take i).foldl (fun e s => e ^^^ 2 ^ s) (2 ^ n * bit))), a]) ⟨rfl, none, ?_⟩ (fun i σ H' _ p => by rw [p.1]; exact SqL.of hsl) (fun i v σ H1 H2 hi p y => ?_) (fun σ H' p => ?_)
  · show [_, _, _, some (V.int (((2 ^ n : Nat) : Int) * ((bit : Nat) : Int))), _] = _
    rw [← Int.natCast_mul]
    rfl
  · obtain ⟨rfl, _, rfl⟩ := p
    obtain ⟨rfl, hv⟩ := y
    rw [List.length_map] at hi
    rw [List.getElem?_map, List.getElem?_eq_getElem hi] at hv
    cases hv
    have hsi := hs _ (List.getElem_mem hi)
    refine ⟨_, rfl, _, rfl, x, _, dx, _, _, _, .ref wt, rfl, hS, T.s_Halves, T.l_Halves_own_weights, rfl, _, rfl, wt, _, _, vn (2 ^ signs[i]), rfl, rfl, SqL.of hW, wat (by omega), _, _, rfl, rfl, rfl, some (vn signs[i]), ?_⟩
    show [_, _, _, some (V.int (Builtin.bitXor _ _)), _] = _
    rw [bXor, List.take_succ, List.getElem?_eq_getElem hi, List.foldl_append]
    rfl
  · obtain ⟨rfl, _, rfl⟩ := p
    rw [List.length_map, List.take_length]
    refine ⟨_, rfl, x, _, dx, _, _, _, vn n, rfl, hS, T.s_Halves, T.l_Halves_own_order, rfl, _, rfl, by omega, by omega, ?_⟩
    refine for_it walk_range (fun i σ H2 => H2 = H' ∧ ∃ e a, σ = [some (.ref x), some (.ref sl), some (vn bit), some (vn e), a] ∧ putGo D (n - i) i e = put n D signs bit) ⟨rfl, _, _, rfl, rfl⟩ (fun _ _ _ _ _ => trivial) (fun i v σ H1 H2 hi p y => ?_) (fun σ H' p => ?_)
    · obtain ⟨rfl, e, _, rfl, he⟩ := p
      obtain ⟨rfl, hv⟩ := y
      obtain rfl : v = vn i := hv.trans (by show V.int (0 + (i : Int)) = _; rw [Int.zero_add])
      rw [Int.toNat_natCast] at hi
      have hm : n - i = (n - (i + 1)) + 1 := by omega
      rw [hm] at he
      unfold putGo at he
      refine ⟨_, rfl, _, rfl, x, _, dx, _, _, _, .ref wt, rfl, hS, T.s_Halves, T.l_Halves_own_weights, rfl, _, rfl, wt, _, _, vn (2 ^ i), rfl, rfl, SqL.of hW, wat (by omega), _, _, rfl, rfl, _, _, rfl, rfl, _, rfl, ?_⟩
      show (if decide ((0 : Int) < Builtin.bitAnd ((e : Nat) : Int) ((2 ^ i : Nat) : Int)) = true then _ else _)
      rw [bAnd]
      by_cases hc : e &&& 2 ^ i > 0
      · rw [decide_eq_true (by omega)]
        rw [if_pos hc] at he
        refine iteT ?_
        refine ⟨_, rfl, _, rfl, x, _, dx, _, _, _, .ref dd, rfl, hS, T.s_Halves, T.l_Halves_own_rows, rfl, dd, _, rfl, DGet.k (k := Sum.inl (i : Int)) hd, _, rfl, ?_⟩
        rw [kvD_val]
        cases hl : D.lookup i with
        | none =>
          rw [hl] at he
          refine iteT ?_
          have hz : sizeLine = 16777216 := sizeLine_eq
          have hln : (kvD D).length < sizeLine := by have := hG.len; unfold kvD; rw [List.length_map]; omega
          refine ⟨_, rfl, _, rfl, x, _, dx, _, _, _, .ref dd, rfl, hS, T.s_Halves, T.l_Halves_own_rows, rfl, _, rfl, dd, _, rfl, DPut.k (k := Sum.inl (i : Int)) hd hln, ?_⟩
          rw [kvD_put hl]
          have sx : SameX dd H2 (upd H2 dd (.dK (kvD (D ++ [(i, e)])))) := SameX.refl.upd
          refine q _ (D ++ [(i, e)]) true sx ⟨dx, wt, slt_keepK sx hd hS, sx.keepK hd hW (fun _ z => by cases z), upd_same⟩ ?_
          have he' : (D ++ [(i, e)], true) = put n D signs bit := he
          rw [he']
          exact hran
        | some r =>
          rw [hl] at he
          refine iteF ?_
          refine ⟨_, rfl, _, rfl, x, _, dx, _, _, _, .ref dd, rfl, hS, T.s_Halves, T.l_Halves_own_rows, rfl, _, rfl, dd, vn r, rfl, ?_, _, _, rfl, rfl, rfl, e ^^^ r, some (vn i), ?_, he⟩
          · have z := DGet.k (k := Sum.inl (i : Int)) hd
            rw [kvD_val, hl] at z
            exact z
          · show [_, _, _, some (V.int (Builtin.bitXor _ _)), _] = _
            rw [bXor]
      · rw [decide_eq_false (by omega)]
        rw [if_neg hc] at he
        exact iteF ⟨rfl, e, _, rfl, he⟩
    · obtain ⟨rfl, e, _, rfl, he⟩ := p
      rw [Int.toNat_natCast, Nat.sub_self] at he
      refine ⟨_, rfl, rfl, ?_⟩
      rw [dec_v0]
      refine q _ D (decide (e = 0)) SameX.refl ⟨dx, wt, hS, hW, hd⟩ ?_
      have e1 : (D, decide (e = 0)) = putGo D 0 n e := by
        show _ = (D, e == 0)
        congr 1
      rw [e1, he]
      exact hran
def spFree (K : PySem.W.Frag) : Sp := fun vs H Q _ => ∃ (x dd : Addr) (n : Nat) (D : Tb), vs = [.ref x] ∧ HalvesAt K H x dd n D ∧ n ≤ 12 ∧ ∀ p H', Same H H' → H' p = some (.lst ((freeL n D).map vn)) → Q (.ref p) H'
theorem free_map (n : Nat) (D : Tb) : (List.range n).filterMap (fun k => if (D.lookup k).isSome = true then none else some (vn k)) = (freeL n D).map vn := by
  unfold freeL
  induction List.range n with
  | nil => rfl
  | cons a l ih =>
    rw [List.filterMap_cons, List.filter_cons]
    cases h : D.lookup a with
    | none =>
      rw [decide_eq_true (lookup_none h)]
      simpa using ih
    | some r =>
      rw [decide_eq_false (fun z => z (List.mem_map.mpr ⟨_, lookup_mem h, rfl⟩))]
      simpa using ih
theorem sc_Halves_free : FnScope ["self", "sign"] ["self"] (defScope (inClass (top 44) 3)) := ⟨rfl, rfl, rfl, by decide +kernel, rfl, by decide +kernel, by decide +kernel⟩
theorem ok_Halves_free (T : Txt K mg)  : FnR P w K mg base CX0 (3) (He.ma K (He.ga K "Halves") "free") (spFree K) := by
  obtain ⟨fd, F⟩ := T.f_Halves_free
  refine met_of F sc_Halves_free (fun vs H Q E h => by first | (obtain ⟨_, rfl, _⟩ := h; rfl) | (obtain ⟨_, _, rfl, _⟩ := h; rfl) | (obtain ⟨_, _, _, rfl, _⟩ := h; rfl) | (obtain ⟨_, _, _, _, rfl, _⟩ := h; rfl) | (obtain ⟨_, _, _, _, _, rfl, _⟩ := h; rfl) | (obtain ⟨_, _, _, _, _, _, rfl, _⟩ := h; rfl) | (obtain ⟨_, _, _, _, _, _, _, rfl, _⟩ := h; rfl) | (obtain ⟨_, _, _, _, _, _, _, _, rfl, _⟩ := h; rfl)) (fun _ _ _ _ _ _ us hl => match us, hl with | [_], _ => rfl) (fun cdv A outer s H vs Q E hr h => ?_)
  obtain ⟨x, dd, n, D, rfl, ⟨dx, wt, hS, hW, hd⟩, h12, q⟩ := h
  refine ⟨_, (pss_one (ps_ret (pe_lc (own := [("sign", 1)]) rfl sc_Halves_free.nd (pi_range1 (by rfl) T.z_range (pa_cons (peSl (K := K) rfl (pv 0)) pa_nil)) (blkOk_by (own := [("sign", 1)]) (N := ["self", "sign"]) (sc := defScope (inClass (top 44) 3)) (by first | decide +kernel | kernel_rfl | rfl)) (fun _ _ _ _ _ => (pg_name (i := 1) sc_Halves_free.nd rfl (Or.inl rfl))) (fun _ _ _ _ _ => (pts_one (pt_cmp (pc_dnotin (hu_of hr) (pv 1) (peSl (K := K) rfl (pv 0)))))) (fun _ _ _ _ _ => (pv 1))))), ?_⟩
  refine ⟨_, rfl, x, _, dx, _, _, _, vn n, rfl, hS, T.s_Halves, T.l_Halves_own_order, rfl, _, rfl, by omega, by omega, fun L hL => ?_⟩
  refine lc_opt walk_range (by rw [Int.toNat_natCast]; omega) hL (fun _ _ => trivial) (fun k => if (D.lookup k).isSome = true then none else some (vn k)) (fun k v H0 H' Kf Kn hk sm hacc hy hK hN => ?_) (fun H' sm hl => ?_)
  · obtain ⟨rfl, hv⟩ := hy
    obtain rfl : v = vn k := hv.trans (by show V.int (0 + (k : Int)) = _; rw [Int.zero_add])
    refine ⟨rfl, _, rfl, _, rfl, x, _, dx, _, _, _, .ref dd, rfl, Slt.mono hS sm, T.s_Halves, T.l_Halves_own_rows, rfl, dd, _, rfl, DGet.k (k := Sum.inl (k : Int)) (sm _ _ hd), _, rfl, ?_⟩
    rw [kvD_val]
    cases hlk : D.lookup k with
    | none => exact iteT ⟨_, rfl, hK _ _ sRefl (by rw [hlk]; rfl)⟩
    | some r => exact iteF (hN _ sRefl (by rw [hlk]; rfl))
  · rw [Int.toNat_natCast, free_map] at hl
    exact q L H' sm hl
def spBits (K : PySem.W.Frag) : Sp := fun vs H Q _ => ∃ (x dd : Addr) (n : Nat) (D : Tb) (c : Nat), vs = [.ref x, vn c] ∧ HalvesAt K H x dd n D ∧ Good n D ∧ n ≤ 12 ∧ c ≤ 1 ∧
  ∀ p H' bs, Same H H' → H p = none → LstN H' p bs → bs.length = n → (∀ s, bs.getD s 0 ≤ 1) → Sat n (bitOf bs) D → (∀ s ∈ freeL n D, bs.getD s 0 = c) → Q (.ref p) H'
theorem set_getD (l : List Nat) (i v j : Nat) (hi : i < l.length) : (l.set i v).getD j 0 = if j = i then v else l.getD j 0 := by
  rw [List.getD_eq_getElem?_getD, List.getElem?_set]
  by_cases h : i = j
  · subst h
    rw [if_pos rfl, if_pos rfl, if_pos hi]
    rfl
  · rw [if_neg h, if_neg (Ne.symm h), List.getD_eq_getElem?_getD]
theorem sc_Halves_bits : FnScope ["self", "chosen", "found", "sign", "equation", "behind", "later", "other"] ["self", "chosen"] (defScope (inClass (top 44) 4)) := ⟨rfl, rfl, rfl, by decide +kernel, rfl, by decide +kernel, by decide +kernel⟩
theorem ok_Halves_bits (T : Txt K mg)  : FnR P w K mg base CX0 (3) (He.ma K (He.ga K "Halves") "bits") (spBits K) := by
  obtain ⟨fd, F⟩ := T.f_Halves_bits
  refine met_of F sc_Halves_bits (fun vs H Q E h => by first | (obtain ⟨_, rfl, _⟩ := h; rfl) | (obtain ⟨_, _, rfl, _⟩ := h; rfl) | (obtain ⟨_, _, _, rfl, _⟩ := h; rfl) | (obtain ⟨_, _, _, _, rfl, _⟩ := h; rfl) | (obtain ⟨_, _, _, _, _, rfl, _⟩ := h; rfl) | (obtain ⟨_, _, _, _, _, _, rfl, _⟩ := h; rfl) | (obtain ⟨_, _, _, _, _, _, _, rfl, _⟩ := h; rfl) | (obtain ⟨_, _, _, _, _, _, _, _, rfl, _⟩ := h; rfl)) (fun _ _ _ _ _ _ us hl => match us, hl with | [_, _], _ => rfl) (fun cdv A outer s H vs Q E hr h => ?_)
  obtain ⟨x, dd, n, D, c, rfl, ⟨dx, wt, hS, hW, hd⟩, hG, h12, hc, q⟩ := h
  have hz : sizeLine = 16777216 := sizeLine_eq
  refine ⟨_, (pss_cons (ps_set (i := 2) sc_Halves_bits.nd rfl (Or.inr rfl) (pe_op op_rep (pe_lst (pa_cons (pv 1) pa_nil)) (peSl (K := K) rfl (pv 0))))
      (pss_cons (ps_for PassesOwn.never rfl (piL (K := K) rfl (pe_revL (pe_callB (cr_sortedD rfl) (by rfl) T.z_sorted (by decide +kernel) (pa_cons (peSl (K := K) rfl (pv 0)) pa_nil)))) (pg_name (i := 3) sc_Halves_bits.nd rfl (Or.inl rfl)) (pss_cons (ps_set (i := 4) sc_Halves_bits.nd rfl (Or.inr rfl) (pe_dget (hu_of hr) (peSl (K := K) rfl (pv 0)) (pv 3) (fun _ _ => rfl)))
      (pss_cons (ps_set (i := 5) sc_Halves_bits.nd rfl (Or.inl rfl) (pe_callTy cr_range2 (by rfl) T.z_range (by decide +kernel) (pa_cons (pe_op op_add (pv 3) (pe_int)) (pa_cons (peSl (K := K) rfl (pv 0)) pa_nil))))
      (pss_cons (ps_setLc (i := 6) (own := [("other", 7)]) rfl sc_Halves_bits.nd rfl rfl (sw_true rfl rfl rfl (by decide +kernel)) (pi_rng (pv 5)) (blkOk_by (own := [("other", 7)]) (N := ["self", "chosen", "found", "sign", "equation", "behind", "later", "other"]) (sc := defScope (inClass (top 44) 4)) (by first | decide +kernel | kernel_rfl | rfl)) (fun _ _ _ _ _ => (pg_name (i := 7) sc_Halves_bits.nd rfl (Or.inl rfl))) (fun _ _ _ _ _ => (pts_one (pt_cmpR op_gt (pe_op op_and (pv 4) (pe_ix (ixL (K := K) rfl) (peSl (K := K) rfl (pv 0)) (pv 7) (fun _ _ => rfl))) (pe_int) (nomark _)))) (fun _ _ _ _ _ => (pe_ix (ixL (K := K) rfl) (pv 2) (pv 7) (fun _ _ => rfl))))
      (pss_one (ps_asg (pe_op op_mod (pe_op op_add (pe_callB (cr_sum rfl) (by rfl) T.z_sum (by decide +kernel) (pa_cons (pv 6) pa_nil)) (pe_callTy call_int1 (by rfl) T.z_int (by decide +kernel) (pa_cons (pe_cmpR op_ge (pv 4) (peSl (K := K) rfl (pv 0)) (nomark _)) pa_nil))) (pe_int)) (pg_sub (pv 2) (pv 3) set_list)))))))
      (pss_one (ps_ret (pv 2))))), ?_⟩
  refine ⟨_, rfl, (by decide : 1 ≤ sizeLine), fun L hL => ?_⟩
  have s1 := same_upd (o := .lst [vn c]) hL
  refine ⟨_, rfl, x, _, dx, _, _, _, vn n, rfl, Slt.mono hS s1, T.s_Halves, T.l_Halves_own_order, rfl, L, _, _, rfl, rfl, upd_same, by omega, by omega, ?_, fun F hF => ?_⟩
  · show 1 * (n : Int).toNat ≤ sizeLine
    omega
  have nF : L ≠ F := fun z => by rw [← z, upd_same] at hF; cases hF
  have hF0 : H F = none := by rw [upd_ne nF.symm] at hF; exact hF
  have s2 : Same H (upd (upd H L (.lst [vn c])) F (.lst (List.replicate (n : Int).toNat [vn c]).flatten)) := fun b u e => by rw [upd_ne (ne_of_none e hF0), upd_ne (ne_of_none e hL)]; exact e
  have l2 : LstN (upd (upd H L (.lst [vn c])) F (.lst (List.replicate (n : Int).toNat [vn c]).flatten)) F (List.replicate n c) := by
    show upd _ _ _ _ = _
    rw [upd_same, Int.toNat_natCast]
    congr 2
    simp
  generalize upd (upd H L (.lst [vn c])) F (.lst (List.replicate (n : Int).toNat [vn c]).flatten) = H2 at s2 l2 ⊢
  refine ⟨_, rfl, x, _, dx, _, _, _, .ref dd, rfl, Slt.mono hS s2, T.s_Halves, T.l_Halves_own_rows, rfl, dd, kvD D, D.map fun p => (p.1 : Int), rfl, .inl (s2 _ _ hd), ?_, ?_, fun ys SL hperm hsort hSL => ?_⟩
  · unfold kvD
    rw [List.map_map, List.map_map]
    rfl
  · rw [List.length_map]
    have := hG.len
    omega
  obtain ⟨ds, eds, hmem, hdesc⟩ := desc_of hG.nd hperm hsort
  have s3 := same_upd (o := .lst (ys.map V.int)) hSL
  refine ⟨SL, _, rfl, SqL.of upd_same, fun R hR => ?_⟩
  rw [eds]
  have hR2 : H2 R = none := s3.free hR
  have s4 : Same H2 (upd (upd H2 SL (.lst (ys.map V.int))) R (.lst (ds.map vn))) := fun b u e => by rw [upd_ne (ne_of_none (s3 _ _ e) hR)]; exact s3 _ _ e
  have hRl : (upd (upd H2 SL (.lst (ys.map V.int))) R (.lst (ds.map vn))) R = some (.lst (ds.map vn)) := upd_same
  generalize upd (upd H2 SL (.lst (ys.map V.int))) R (.lst (ds.map vn)) = H3 at s4 hRl ⊢
  have nRF : R ≠ F := fun z => by rw [z, l2] at hR2; cases hR2
  refine ⟨R, rfl, ⟨_, SqL.of hRl⟩, ?_⟩
  refine for_it walk_list (fun i σ H' => (∃ a b d e f, σ = [some (.ref x), some (vn c), some (.ref F), a, b, d, e, f]) ∧ SameX F H3 H' ∧ ∃ bs, LstN H' F bs ∧ bs.length = n ∧ (∀ s, bs.getD s 0 ≤ 1) ∧ (∀ p ∈ D, p.1 ∈ ds.take i → val n (bitOf bs) p.2 = false) ∧ ∀ s, s < n → s ∉ ds.take i → bs.getD s 0 = c)
    ⟨⟨_, _, _, _, _, rfl⟩, SameX.refl, List.replicate n c, s4 _ _ l2, List.length_replicate, fun s => ?_, by simp, fun s hs _ => ?_⟩ (fun i σ H' _ p => SqL.of (p.2.1 _ _ hRl nRF)) (fun i v σ H4 H5 hi p y => ?_) (fun σ H' p => ?_)
  · rw [List.getD_eq_getElem?_getD, List.getElem?_replicate]
    split
    · exact hc
    · exact Nat.zero_le _
  · rw [List.getD_eq_getElem?_getD, List.getElem?_replicate, if_pos hs]
    rfl
  · obtain ⟨⟨_, _, _, _, _, rfl⟩, sx, bs, lb, lbn, hb1, hval, hfree⟩ := p
    obtain ⟨rfl, hv⟩ := y
    rw [List.length_map] at hi
    rw [List.getElem?_map, List.getElem?_eq_getElem hi] at hv
    cases hv
    have hsm : ds[i] ∈ D.map (·.1) := (hmem _).mp (List.getElem_mem hi)
    have hgt := take_gt hdesc hi
    generalize hs0 : ds[i] = s at hsm hgt
    obtain ⟨p, hp, hps⟩ := List.mem_map.mp hsm
    obtain ⟨s', e⟩ := p
    obtain rfl : s' = s := hps
    have hsn : s' < n := hG.lt _ hp
    have hEq : Eqn n e := hG.eqn _ hp
    have hlk := lookup_some hG.nd hp
    have sH : Same H H5 := fun b u e => sx _ _ (s4 _ _ (s2 _ _ e)) (ne_of_none e hF0)
    refine ⟨_, rfl, x, _, dx, _, _, _, .ref dd, rfl, Slt.mono hS sH, T.s_Halves, T.l_Halves_own_rows, rfl, _, rfl, dd, vn e, rfl, ?_, ?_⟩
    · have z := DGet.k (k := Sum.inl (s' : Int)) (sH _ _ hd)
      rw [kvD_val, hlk] at z
      exact z
    refine ⟨_, rfl, _, _, rfl, rfl, _, rfl, x, _, dx, _, _, _, vn n, rfl, Slt.mono hS sH, T.s_Halves, T.l_Halves_own_order, rfl, _, _, rfl, fun Rg hRg => ?_⟩
    have s6 := same_upd (o := .rng ((s' : Int) + 1) (n : Int)) hRg
    have hRg6 : upd H5 Rg (.rng ((s' : Int) + 1) (n : Int)) Rg = some (.rng ((s' : Int) + 1) (n : Int)) := upd_same
    generalize upd H5 Rg (.rng ((s' : Int) + 1) (n : Int)) = H6 at s6 hRg6
    have sH6 : Same H H6 := fun b u e => s6 _ _ (sH _ _ e)
    have lb6 : LstN H6 F bs := s6 _ _ lb
    refine ⟨_, rfl, Rg, _, _, rfl, hRg6, ⟨by omega, by omega, by omega, by omega⟩, fun D2 hD2 => ?_⟩
    have em : (((n : Int)) - ((s' : Int) + 1)).toNat = n - (s' + 1) := by omega
    rw [em]
    refine lc_opt walk_range (by omega) hD2 (fun _ _ => trivial) (fun k => if e.testBit (s' + 1 + k) = true then some (vn (bs.getD (s' + 1 + k) 0)) else none) (fun k v H0 H' Kf Kn hk sm hacc hy hK hN => ?_) (fun H' sm hl => ?_)
    · obtain ⟨rfl, hv⟩ := hy
      obtain rfl : v = vn (s' + 1 + k) := hv.trans (by show V.int ((s' : Int) + 1 + (k : Int)) = V.int ((s' + 1 + k : Nat) : Int); congr 1)
      refine ⟨rfl, _, rfl, _, rfl, x, _, dx, _, _, _, .ref wt, rfl, (Slt.mono (Slt.mono hS sH6) sm), T.s_Halves, T.l_Halves_own_weights, rfl, _, rfl, wt, _, _, vn (2 ^ (s' + 1 + k)), rfl, rfl, SqL.of (sm _ _ (sH6 _ _ hW)), wat (by omega), _, _, rfl, rfl, _, _, rfl, rfl, _, rfl, ?_⟩
      show (if decide ((0 : Int) < Builtin.bitAnd ((e : Nat) : Int) ((2 ^ (s' + 1 + k) : Nat) : Int)) = true then _ else _)
      rw [bAnd]
      by_cases hbit : e &&& 2 ^ (s' + 1 + k) > 0
      · rw [decide_eq_true (by omega)]
        refine iteT ⟨_, rfl, _, rfl, F, _, _, _, rfl, rfl, SqL.of (sm _ _ lb6), atN (by omega), hK _ _ sRefl ?_⟩
        rw [if_pos (and_pos.mp hbit)]
      · rw [decide_eq_false (by omega)]
        refine iteF (hN _ sRefl ?_)
        rw [if_neg fun z => hbit (and_pos.mpr z)]
    · have sH' : Same H H' := fun b u e => sm _ _ (sH6 _ _ e)
      have lb' : LstN H' F bs := sm _ _ lb6
      have el : (List.range (n - (s' + 1))).filterMap (fun k => if e.testBit (s' + 1 + k) = true then some (vn (bs.getD (s' + 1 + k) 0)) else none) = (((List.range (n - (s' + 1))).map fun k => s' + 1 + k).filterMap fun t => if e.testBit t = true then some ((bs.getD t 0 : Nat) : Int) else none).map V.int := by
        rw [List.filterMap_map, List.map_filterMap]
        congr 1
        funext k
        show _ = Option.map V.int (if e.testBit (s' + 1 + k) = true then some ((bs.getD (s' + 1 + k) 0 : Nat) : Int) else none)
        split <;> rfl
      rw [el] at hl
      refine ⟨_, rfl, D2, _, rfl, SqL.of hl, _, rfl, _, rfl, x, _, dx, _, _, _, vn (2 ^ n), rfl, Slt.mono hS sH', T.s_Halves, T.l_Halves_own_end, rfl, _, _, rfl, rfl, .inr ⟨_, rfl, _, _, rfl, rfl, _, _, rfl, rfl, by omega, ?_⟩⟩
      refine ⟨_, rfl, _, rfl, F, _, _, s', rfl, rfl, lb', ?_, ?_⟩
      · unfold ixN
        rw [List.length_map, if_pos (by omega), if_pos (by omega)]
        rfl
      have ev : (((((List.range (n - (s' + 1))).map fun k => s' + 1 + k).filterMap fun t => if e.testBit t = true then some ((bs.getD t 0 : Nat) : Int) else none).sum + (if decide (((2 ^ n : Nat) : Int) ≤ ((e : Nat) : Int)) = true then 1 else 0)) % 2 : Int) = ((if tailX n (bitOf bs) e s' = true then 1 else 0 : Nat) : Int) := by
        rw [← par_tail hb1 hEq, show decide (((2 ^ n : Nat) : Int) ≤ ((e : Nat) : Int)) = decide (2 ^ n ≤ e) from by rw [decide_eq_decide]; omega]
      refine ⟨⟨_, _, _, _, _, rfl⟩, fun b u e n => by rw [upd_ne n]; exact sm _ _ (s6 _ _ (sx _ _ e n)), bs.set s' (if tailX n (bitOf bs) e s' = true then 1 else 0), ?_, by rw [List.length_set]; exact lbn, fun t => ?_, fun p hp ht => ?_, fun t htn hnt => ?_⟩
      · show upd _ _ _ _ = _
        rw [upd_same, List.map_set]
        congr 3
        exact congrArg V.int ev
      · rw [set_getD _ _ _ _ (by omega)]
        split
        · split <;> omega
        · exact hb1 t
      · have bo : ∀ t, t ≠ s' → bitOf (bs.set s' (if tailX n (bitOf bs) e s' = true then 1 else 0)) t = bitOf bs t := fun t ht => by
          unfold bitOf
          rw [set_getD _ _ _ _ (by omega), if_neg ht]
        by_cases hps : p.1 = s'
        · have ep : p.2 = e := by
            have := lookup_some hG.nd (show (p.1, p.2) ∈ D from hp)
            rw [hps, hlk] at this
            exact (Option.some.inj this).symm
          rw [ep, val_low hsn (hG.top _ ‹(s', e) ∈ D›) (hG.low _ ‹(s', e) ∈ D›), tailX_congr (b' := bitOf bs) fun t ht _ => bo t (by omega)]
          have : bitOf (bs.set s' (if tailX n (bitOf bs) e s' = true then 1 else 0)) s' = tailX n (bitOf bs) e s' := by
            unfold bitOf
            rw [set_getD _ _ _ _ (by omega), if_pos rfl]
            split <;> simp_all
          rw [this]
          cases tailX n (bitOf bs) e s' <;> rfl
        · have hin : p.1 ∈ ds.take i := by
            rw [List.take_succ, List.getElem?_eq_getElem hi, hs0] at ht
            rcases List.mem_append.mp ht with z | z
            · exact z
            · exact absurd (by simpa using z) hps
          rw [val_congr (b' := bitOf bs) fun t _ htb => bo t fun z => ?_]
          · exact hval p hp hin
          · have h1 := hgt _ hin
            have := hG.low p hp t (by omega)
            rw [htb] at this
            cases this
      · have hne : t ≠ s' := fun z => hnt (by rw [List.take_succ, List.getElem?_eq_getElem hi, hs0, z]; simp)
        rw [set_getD _ _ _ _ (by omega), if_neg hne]
        exact hfree t htn fun z => hnt (by rw [List.take_succ]; exact List.mem_append_left _ z)
  · obtain ⟨⟨_, _, _, _, _, rfl⟩, sx, bs, lb, lbn, hb1, hval, hfree⟩ := p
    rw [List.length_map, List.take_length] at hval hfree
    refine ⟨_, rfl, q F H' bs (fun b u e => sx _ _ (s4 _ _ (s2 _ _ e)) (ne_of_none e hF0)) hF0 lb lbn hb1 (fun p hp => hval p hp ((hmem _).mpr (List.mem_map_of_mem hp))) fun s hs => ?_⟩
    obtain ⟨h1, h2⟩ := mem_free.mp hs
    exact hfree s h1 fun z => h2 ((hmem _).mp z)
end
end K61

set_option Elab.async false
set_option maxRecDepth 100000
set_option maxHeartbeats 4000000
namespace K61
open PySem PySem.Spec PyProof.Rows L2
section
variable {P : Program} {w : World} {K : PySem.W.Frag} {mg : Str → Option Value} {base : Heap}
/-- the k-th place that is asked: row, column, sign -/
def tri (rs : Rows) (k : Nat) : Nat × Nat × Nat := (k / (rs.length - 1) + 1, k % (rs.length - 1) + 1, (rs.getD (k / (rs.length - 1) + 1) []).getD (k % (rs.length - 1) + 1) 0)
def plc (rs : Rows) : List (Nat × Nat × Nat) := (List.range ((rs.length - 1) * (rs.length - 1))).map (tri rs)
def Tr3 (H : Hp) (p : Addr) (t : Nat × Nat × Nat) : Prop := H p = some (.tup [vn t.1, vn t.2.1, vn t.2.2])
def spPlaces : Sp := fun vs H Q _ => ∃ (a : Addr) (rs : Rows), vs = [.ref a] ∧ TupR H a rs ∧ Lat rs ∧ 2 ≤ rs.length ∧ ∀ p H' ps, Same H H' → H' p = some (.lst (ps.map V.ref)) → Each Tr3 H' ps (plc rs) → Q (.ref p) H'
theorem sc_places_of : FnScope ["rows", "row", "head", "sign"] ["rows"] (defScope (top 43)) := ⟨rfl, rfl, rfl, by decide +kernel, rfl, by decide +kernel, by decide +kernel⟩
theorem ok_places_of (T : Txt K mg)  : Cal P w K mg base (3) "places_of" (spPlaces) := by
  obtain ⟨fd, F⟩ := T.f_places_of
  refine cal_of T.g_places_of F sc_places_of (fun vs H Q E h => by first | (obtain ⟨_, rfl, _⟩ := h; rfl) | (obtain ⟨_, _, rfl, _⟩ := h; rfl) | (obtain ⟨_, _, _, rfl, _⟩ := h; rfl) | (obtain ⟨_, _, _, _, rfl, _⟩ := h; rfl) | (obtain ⟨_, _, _, _, _, rfl, _⟩ := h; rfl) | (obtain ⟨_, _, _, _, _, _, rfl, _⟩ := h; rfl) | (obtain ⟨_, _, _, _, _, _, _, rfl, _⟩ := h; rfl) | (obtain ⟨_, _, _, _, _, _, _, _, rfl, _⟩ := h; rfl)) (fun _ _ _ _ _ _ us hl => match us, hl with | [_], _ => rfl) (fun cdv A outer s H vs Q E hr h => ?_)
  obtain ⟨a, rs, rfl, ⟨ps, ha, hE⟩, L, h2, q⟩ := h
  have h12 := L.le
  have lp := hE.length
  obtain ⟨a0, hq0, t0⟩ := hE.get' L.first
  have hrow : ∀ i, i + 1 < rs.length → (rs.getD (i + 1) []).getD 0 0 = i + 1 := fun i hi => by
    have z := congrArg (fun l => l[i + 1]?) L.heads
    simp only [List.getElem?_map, List.getElem?_range hi, List.getElem?_eq_getElem hi] at z
    rw [getD_of (List.getElem?_eq_getElem hi)]
    exact Option.some.inj z
  refine ⟨_, (pss_one (ps_ret (pe_lc2 (own := [("row", 1), ("head", 2), ("sign", 3)]) (vs1 := [2, 3]) rfl sc_places_of.nd (piT (K := K) rfl (pe_slice sl_tupA (pv 0) (po_some (pe_int)) po_none)) (blkOk_by (own := [("row", 1), ("head", 2), ("sign", 3)]) (N := ["rows", "row", "head", "sign"]) (sc := defScope (top 43)) (by first | decide +kernel | kernel_rfl | rfl)) (by decide) (fun _ _ _ _ _ => (pg_name (i := 1) sc_places_of.nd rfl (Or.inl rfl))) (fun _ _ _ _ _ => pts_nil) (fun _ _ _ _ _ => (piL (K := K) rfl (pe_slice (slL (K := K) rfl) (listZip (K := K) rfl (by rfl) T.z_list (by rfl) T.z_zip (pa_cons (pe_ix (ixT (K := K) rfl) (pv 0) (pe_int) (fun _ _ => rfl)) (pa_cons (pv 1) pa_nil))) (po_some (pe_int)) po_none))) (fun _ _ _ _ _ => (pgTup (K := K) (n := 2) rfl rfl (pgs_cons (pg_name (i := 2) sc_places_of.nd rfl (Or.inl rfl)) (pgs_cons (pg_name (i := 3) sc_places_of.nd rfl (Or.inl rfl)) pgs_nil)))) (fun _ _ _ _ _ => pts_nil) (fun _ _ _ _ _ => (pe_tup (pa_cons (pe_ix (ixT (K := K) rfl) (pv 1) (pe_int) (fun _ _ => rfl)) (pa_cons (pv 2) (pa_cons (pv 3) pa_nil)))))))), ?_⟩
  refine ⟨_, rfl, _, rfl, a, _, rfl, SqT.of ha, fun z => ?_, fun _ P hP => ?_⟩
  · exfalso
    have e : HT.sIx (ps.map V.ref).length 0 (some 1) = min 1 (ps.map V.ref).length := HT.sIx_nat _ 0 1
    rw [e, List.length_map] at z
    omega
  rw [cut1]
  have s1 := same_upd (o := .tup ((ps.map V.ref).drop 1)) hP
  have hP1 : upd H P (.tup ((ps.map V.ref).drop 1)) P = some (.tup ((ps.map V.ref).drop 1)) := upd_same
  generalize upd H P (.tup ((ps.map V.ref).drop 1)) = H1 at s1 hP1 ⊢
  refine ⟨P, rfl, ⟨_, SqT.of hP1⟩, fun D hD => ?_⟩
  have ln : ((ps.map V.ref).drop 1).length = rs.length - 1 := by rw [List.length_drop, List.length_map, lp]
  have nm : (rs.length - 1) * (rs.length - 1) ≤ 1000 := by
    have : (rs.length - 1) * (rs.length - 1) ≤ 11 * 11 := Nat.mul_le_mul (by omega) (by omega)
    omega
  refine lc2_gen (m := rs.length - 1) walk_tup (by rw [ln]; exact nm) hD (fun H' sm => SqT.of (sm _ _ hP1)) (fun H' k y => ∃ q, y = .ref q ∧ q ≠ D ∧ Tr3 H' q (tri rs k)) (fun H0 H' k y sx ⟨p, e, n, t⟩ => ⟨p, e, n, sx _ _ t n⟩) (fun i x H0 H' acc Kt hi sm hacc hy hKt => ?_) (fun ys H' sm hy ly hr' => ?_)
  · obtain ⟨rfl, hx⟩ := hy
    rw [ln] at hi
    rw [List.getElem?_drop, Nat.add_comm] at hx
    obtain ⟨qr, row, rfl, hrw, tr⟩ := hE.refs hx
    have mrow := List.mem_of_getElem? hrw
    have prow := perm_lt (L.row row mrow)
    have sH : Same H H' := fun b u e => sm _ _ (s1 _ _ e)
    refine ⟨rfl, ?_⟩
    refine ⟨_, rfl, a, _, ((0 : Nat) : Int), .ref a0, rfl, rfl, SqT.of (sH _ _ ha), atV (by rw [List.getElem?_map, hq0]; rfl), _, rfl, a0, qr, _, _, rfl, SqT.of (t0.mono sH), SqT.of (tr.mono sH), by rw [List.length_map, List.length_map, List.length_range, prow.1], by rw [List.length_map, List.length_range]; omega, fun zl zs H2 hzl s2 hl2 hE2 => ?_⟩
    refine ⟨_, rfl, zl, _, rfl, SqL.of hl2, fun SL hSL => ?_⟩
    rw [cut1]
    have s3 := same_upd (o := .lst ((zs.map V.ref).drop 1)) hSL
    have hSL3 : upd H2 SL (.lst ((zs.map V.ref).drop 1)) SL = some (.lst ((zs.map V.ref).drop 1)) := upd_same
    have nSD : SL ≠ D := fun z => by rw [z, s2 _ _ hacc] at hSL; cases hSL
    have lz : zs.length = rs.length := by
      have z := hE2.length
      rw [List.length_zip, List.length_map, List.length_map, List.length_range, prow.1] at z
      omega
    generalize upd H2 SL (.lst ((zs.map V.ref).drop 1)) = H3 at s3 hSL3 ⊢
    have s23 : Same H' H3 := fun b u e => s3 _ _ (s2 _ _ e)
    refine ⟨SL, rfl, ⟨_, SqL.of hSL3⟩, ?_⟩
    have wl : Walk (Itl K SL) (rs.length - 1) (fun H => SqL K H SL ((zs.map V.ref).drop 1)) (YAt ((zs.map V.ref).drop 1)) := by
      have := walk_list (K := K) (a := SL) (xs := (zs.map V.ref).drop 1)
      rwa [List.length_drop, List.length_map, lz] at this
    refine hKt _ _ H3 _ _ wl s23 (fun H5 sx => SqL.of (sx _ _ hSL3 nSD)) (fun j x5 H5 H6 Kf hj sx hD5 y hKf => ?_)
    obtain ⟨rfl, hx5⟩ := y
    rw [List.getElem?_drop, Nat.add_comm] at hx5
    obtain ⟨pz, ez, rfl, hez, tz⟩ := hE2.refs hx5
    rw [List.getElem?_zip_eq_some] at hez
    obtain ⟨e1, e2⟩ := hez
    rw [List.getElem?_map, List.getElem?_range (by omega)] at e1
    rw [List.getElem?_map, List.getElem?_eq_getElem (by omega)] at e2
    obtain ⟨x1, x2⟩ := ez
    cases e1
    cases e2
    have npz : pz ≠ D := fun z => by
      have := s2 _ _ hacc
      unfold PairAt at tz
      rw [z, this] at tz
      cases tz
    have nqr : qr ≠ D := ne_of_none tr (s1.free hD)
    have tz5 := sx _ _ (s3 _ _ tz) npz
    have tr5 : TupN H6 qr row := sx _ _ (s23 _ _ (tr.mono sH)) nqr
    refine ⟨pz, _, rfl, SqT.of tz5, rfl, _, _, rfl, _, _, rfl, rfl, rfl, ?_⟩
    refine ⟨_, rfl, qr, _, ((0 : Nat) : Int), _, rfl, rfl, SqT.of tr5, atN (by omega), _, rfl, _, rfl, (by decide : 3 ≤ sizeLine), fun p hp => hKf _ _ (same_upd hp) ⟨p, rfl, fun z => ?_, ?_⟩⟩
    · obtain ⟨acc5, h5⟩ := hD5
      rw [z, h5] at hp
      cases hp
    · show upd _ _ _ _ = _
      have mp : rs.length - 1 > 0 := by omega
      have m1 : (i * (rs.length - 1) + j) / (rs.length - 1) = i := by rw [Nat.mul_comm, Nat.mul_add_div mp, Nat.div_eq_of_lt hj, Nat.add_zero]
      have m2 : (i * (rs.length - 1) + j) % (rs.length - 1) = j := by rw [Nat.mul_comm, Nat.mul_add_mod, Nat.mod_eq_of_lt hj]
      rw [upd_same]
      unfold tri
      rw [m1, m2]
      have e0 := hrow i (by omega)
      rw [getD_of hrw] at e0 ⊢
      rw [e0, getD_of (List.getElem?_eq_getElem (show j + 1 < row.length by omega))]
  · rw [ln] at ly
    obtain ⟨qs, e, hQ⟩ := each_of (RR := Tr3) ys (tri rs) fun k y e => let ⟨p, h1, _, h2⟩ := hr' k y e; ⟨p, h1, h2⟩
    rw [ly] at hQ
    exact q D H' qs (fun b u e => sm _ _ (s1 _ _ e)) (by rw [hy, e]) hQ
/-- what the halves lack -/
def lck (N : List Nat) (m : Nat) (t : Nat × Nat × Nat) : Nat := ((((N.getD t.1 0 : Nat) : Int) + ((N.getD t.2.1 0 : Nat) : Int) - ((N.getD t.2.2 0 : Nat) : Int)) / (m : Int) % 2).toNat
def SysOk (rs : Rows) (N : List Nat) (m : Nat) (b : Nat → Bool) : Prop := b 0 = false ∧ ∀ t ∈ plc rs, (b t.1 ^^ b t.2.1 ^^ b t.2.2) = (lck N m t == 1)
theorem plc_lt {rs : Rows} (L : Lat rs) {t : Nat × Nat × Nat} (h : t ∈ plc rs) : t.1 < rs.length ∧ t.2.1 < rs.length ∧ t.2.2 < rs.length := by
  obtain ⟨k, hk, rfl⟩ := List.mem_map.mp h
  have hk := List.mem_range.mp hk
  have mp : 0 < rs.length - 1 := by
    rcases Nat.eq_zero_or_pos (rs.length - 1) with z | z
    · rw [z] at hk; omega
    · exact z
  have h1 : k / (rs.length - 1) < rs.length - 1 := Nat.div_lt_of_lt_mul hk
  have h2 : k % (rs.length - 1) < rs.length - 1 := Nat.mod_lt _ mp
  refine ⟨by show _ + 1 < _; omega, by show _ + 1 < _; omega, ?_⟩
  show (rs.getD (k / (rs.length - 1) + 1) []).getD (k % (rs.length - 1) + 1) 0 < rs.length
  have hr : rs[k / (rs.length - 1) + 1]? = some (rs[k / (rs.length - 1) + 1]'(by omega)) := List.getElem?_eq_getElem (by omega)
  have pr := perm_lt (L.row _ (List.mem_of_getElem? hr))
  rw [getD_of hr, List.getD_eq_getElem?_getD, List.getElem?_eq_getElem (by omega)]
  exact pr.2 _ (List.getElem_mem _)
theorem lck_le (N : List Nat) (m : Nat) (t : Nat × Nat × Nat) : lck N m t ≤ 1 := by unfold lck; omega
theorem lck_int (N : List Nat) (m : Nat) (t : Nat × Nat × Nat) : (((N.getD t.1 0 : Nat) : Int) + ((N.getD t.2.1 0 : Nat) : Int) - ((N.getD t.2.2 0 : Nat) : Int)) / (m : Int) % 2 = ((lck N m t : Nat) : Int) := by unfold lck; omega
/-- the equations of the first places -/
def SysI (rs : Rows) (N : List Nat) (m : Nat) (i : Nat) (b : Nat → Bool) : Prop := b 0 = false ∧ ∀ t ∈ (plc rs).take i, (b t.1 ^^ b t.2.1 ^^ b t.2.2) = (lck N m t == 1)
def spHalvesOf (K : PySem.W.Frag) : Sp := fun vs H Q _ => ∃ (a nl : Addr) (rs : Rows) (N : List Nat) (m : Nat), vs = [.ref a, .ref nl, vn m] ∧ TupR H a rs ∧ Lat rs ∧ 2 ≤ rs.length ∧ LstN H nl N ∧ N.length = rs.length ∧ 1 ≤ m ∧ m ≤ 1000 ∧
  (∀ H', Same H H' → (∀ b, ¬ SysOk rs N m b) → Q .non H') ∧ ∀ x dd D H', Same H H' → H dd = none → HalvesAt K H' x dd rs.length D → Good rs.length D → (∀ b, Sat rs.length b D ↔ SysOk rs N m b) → Q (.ref x) H'
theorem sc_halves_of : FnScope ["rows", "numbers", "modulus", "found", "one", "other", "sign", "lacks"] ["rows", "numbers", "modulus"] (defScope (top 45)) := ⟨rfl, rfl, rfl, by decide +kernel, rfl, by decide +kernel, by decide +kernel⟩
theorem ok_halves_of (T : Txt K mg) (c_places_of : Cal P w K mg base 3 "places_of" spPlaces) (m_Halves_init : FnR P w K mg base CX0 4 (He.ma K (He.ga K "Halves") "__init__") (spHalves K)) (m_Halves_is_put : FnR P w K mg base CX0 3 (He.ma K (He.ga K "Halves") "is_put") (spIsPut K)) : Cal P w K mg base (6) "halves_of" (spHalvesOf K) := by
  obtain ⟨fd, F⟩ := T.f_halves_of
  refine cal_of T.g_halves_of F sc_halves_of (fun vs H Q E h => by first | (obtain ⟨_, rfl, _⟩ := h; rfl) | (obtain ⟨_, _, rfl, _⟩ := h; rfl) | (obtain ⟨_, _, _, rfl, _⟩ := h; rfl) | (obtain ⟨_, _, _, _, rfl, _⟩ := h; rfl) | (obtain ⟨_, _, _, _, _, rfl, _⟩ := h; rfl) | (obtain ⟨_, _, _, _, _, _, rfl, _⟩ := h; rfl) | (obtain ⟨_, _, _, _, _, _, _, rfl, _⟩ := h; rfl) | (obtain ⟨_, _, _, _, _, _, _, _, rfl, _⟩ := h; rfl)) (fun _ _ _ _ _ _ us hl => match us, hl with | [_, _, _], _ => rfl) (fun cdv A outer s H vs Q E hr h => ?_)
  obtain ⟨a, nl, rs, N, m, rfl, ⟨ps, ha, hE⟩, L, h2, hN, lN, hm1, hm2, q1, q2⟩ := h
  have h12 := L.le
  have lp := hE.length
  obtain ⟨a0, hq0, t0⟩ := hE.get' L.first
  refine ⟨_, (pss_cons (ps_set (i := 3) sc_halves_of.nd rfl (Or.inl rfl) (StX.pe_makeR T.k_Halves m_Halves_init (hr.mono (by decide)) (by rfl) T.g_Halves pass0 (pa_cons (pe_callB (lenK (K := K) rfl) (by rfl) T.z_len (by decide +kernel) (pa_cons (pv 0) pa_nil)) pa_nil)))
      (pss_cons (ps_expr (SlX.pe_methSl (pv 3) T.s_Halves T.m_Halves_is_put m_Halves_is_put (hr.mono (by decide)) pass0 (pa_cons (pe_lst (pa_cons (pe_ix (ixT (K := K) rfl) (pe_ix (ixT (K := K) rfl) (pv 0) (pe_int) (fun _ _ => rfl)) (pe_int) (fun _ _ => rfl)) pa_nil)) (pa_cons (pe_int) pa_nil))))
      (pss_cons (ps_for PassesOwn.never rfl (piL (K := K) rfl (pe_cal c_places_of (hr.mono (by decide)) (pa_cons (pv 0) pa_nil))) (pgTup (K := K) (n := 3) rfl rfl (pgs_cons (pg_name (i := 4) sc_halves_of.nd rfl (Or.inl rfl)) (pgs_cons (pg_name (i := 5) sc_halves_of.nd rfl (Or.inl rfl)) (pgs_cons (pg_name (i := 6) sc_halves_of.nd rfl (Or.inl rfl)) pgs_nil)))) (pss_cons (ps_set (i := 7) sc_halves_of.nd rfl (Or.inl rfl) (pe_op op_mod (pe_op op_fdiv (pe_op op_sub (pe_op op_add (pe_ix (ixL (K := K) rfl) (pv 1) (pv 4) (fun _ _ => rfl)) (pe_ix (ixL (K := K) rfl) (pv 1) (pv 5) (fun _ _ => rfl))) (pe_ix (ixL (K := K) rfl) (pv 1) (pv 6) (fun _ _ => rfl))) (pv 2)) (pe_int)))
      (pss_one (ps_if (pt_not (pt_val (SlX.pe_methSl (pv 3) T.s_Halves T.m_Halves_is_put m_Halves_is_put (hr.mono (by decide)) pass0 (pa_cons (pe_lst (pa_cons (pv 4) (pa_cons (pv 5) (pa_cons (pv 6) pa_nil)))) (pa_cons (pv 7) pa_nil))))) (pss_one (ps_ret (pe_non))) pss_nil))))
      (pss_one (ps_ret (pv 3)))))), ?_⟩
  refine ⟨_, rfl, a, _, rfl, .inr (SqT.of ha), fun x dx hx hdx hne => ⟨x, dx, H, rs.length, by rw [List.length_map, lp], rfl, hx, hdx, hne, h12, fun H1 dd s1 hdd hA => ⟨rfl, ?_⟩⟩⟩
  -- the first equation
  have hA' := hA
  obtain ⟨dx1, wt, k1, _⟩ := hA'
  refine ⟨_, rfl, x, dx1, _, rfl, k1, _, rfl, a, _, ((0 : Nat) : Int), .ref a0, rfl, rfl, SqT.of (s1 _ _ ha), atV (by rw [List.getElem?_map, hq0]; rfl), a0, _, ((0 : Nat) : Int), vn 0, rfl, rfl, SqT.of (t0.mono s1), ?_, (by decide : 1 ≤ sizeLine), fun SL hSL => ?_⟩
  · refine atV ?_
    rw [List.getElem?_map, List.getElem?_range (by omega)]
    rfl
  have s2 := same_upd (o := .lst [vn 0]) hSL
  refine ⟨x, dd, SL, rs.length, [], [0], 0, rfl, hA.mono s2, Good.nil, h12, upd_same, by simp, fun s hs => by rw [List.mem_singleton.mp hs]; omega, by omega, fun H3 D1 ok sx3 hA3 hran => ?_⟩
  have v0 : ∀ b, val rs.length b (eqOf rs.length [0] 0) = b 0 := fun b => by
    rw [eqOf_val b (fun s hs => by rw [List.mem_singleton.mp hs]; omega) (by omega)]
    simp
  have ok1 : ok = true := (hran.sound (fun _ => false) (fun p hp => by cases hp) (by rw [v0])).1
  subst ok1
  have sH3 : Same H H3 := fun b u e => sx3 _ _ (s2 _ _ (s1 _ _ e)) (ne_of_none e hdd)
  have sat0 : ∀ b, Sat rs.length b D1 ↔ SysI rs N m 0 b := fun b => by
    constructor
    · intro h
      exact ⟨by have z := hran.full rfl b h; rwa [v0] at z, by simp⟩
    · intro h
      exact (hran.sound b (fun p hp => by cases hp) (by rw [v0]; exact h.1)).2
  refine ⟨_, rfl, a, rs, rfl, ⟨ps, sH3 _ _ ha, eachM hE sH3⟩, L, h2, fun PL H4 tps s4 hPL hT => ?_⟩
  have sH4 : Same H H4 := fun b u e => s4 _ _ (sH3 _ _ e)
  have hA4 := hA3.mono s4
  refine ⟨PL, rfl, ⟨_, SqL.of hPL⟩, ?_⟩
  have hd4 : H4 dd ≠ none := by
    obtain ⟨_, _, _, _, z⟩ := hA4
    rw [z]
    exact fun z => nomatch z
  have nPL : PL ≠ dd := fun z => by
    obtain ⟨_, _, _, _, y⟩ := hA4
    rw [z, y] at hPL
    cases hPL
  have ltp := hT.length
  refine for_it walk_list (fun i σ H' => (∃ e f g h, σ = [some (.ref a), some (.ref nl), some (vn m), some (.ref x), e, f, g, h]) ∧ SameX dd H4 H' ∧ ∃ D, HalvesAt K H' x dd rs.length D ∧ Good rs.length D ∧ ∀ b, Sat rs.length b D ↔ SysI rs N m i b) ⟨⟨_, _, _, _, rfl⟩, SameX.refl, D1, hA4, hran.good, sat0⟩ (fun i σ H' _ p => SqL.of (p.2.1 _ _ hPL nPL)) (fun i v σ H5 H6 hi p y => ?_) (fun σ H' p => ?_)
  · obtain ⟨⟨_, _, _, _, rfl⟩, sx, D, hA5, hG, hsat⟩ := p
    obtain ⟨rfl, hv⟩ := y
    obtain ⟨pt, tt, rfl, htt, tp⟩ := hT.refs hv
    have mt := List.mem_of_getElem? htt
    have lt3 := plc_lt L mt
    have npt : pt ≠ dd := fun z => by
      obtain ⟨_, _, _, _, y⟩ := hA4
      unfold Tr3 at tp
      rw [z, y] at tp
      cases tp
    have sH6 : Same H H6 := fun b u e => sx _ _ (sH4 _ _ e) (ne_of_none e hdd)
    refine ⟨pt, _, rfl, SqT.of (sx _ _ tp npt), rfl, _, _, rfl, _, _, rfl, _, _, rfl, rfl, ?_⟩
    have hN6 := sH6 _ _ hN
    refine ⟨_, rfl, _, rfl, nl, _, _, _, rfl, rfl, SqL.of hN6, atN (by omega), _, rfl, _, rfl, nl, _, _, _, rfl, rfl, SqL.of hN6, atN (by omega), _, _, rfl, rfl, _, rfl, _, rfl, nl, _, _, _, rfl, rfl, SqL.of hN6, atN (by omega), _, _, rfl, rfl, _, rfl, _, _, rfl, rfl, ⟨by omega, by omega⟩, _, _, rfl, rfl, by omega, ?_⟩
    have hA5' := hA5
    obtain ⟨dx5, wt5, k5, _, hd5⟩ := hA5'
    refine ⟨_, rfl, x, dx5, _, rfl, k5, _, rfl, _, rfl, _, rfl, (by decide : 3 ≤ sizeLine), fun SL2 hSL2 => ?_⟩
    have s7 := same_upd (o := .lst [vn tt.1, vn tt.2.1, vn tt.2.2]) hSL2
    refine ⟨_, rfl, x, dd, SL2, rs.length, D, [tt.1, tt.2.1, tt.2.2], lck N m tt, ?_, hA5.mono s7, hG, h12, upd_same, by simp, fun s hs => ?_, lck_le N m tt, fun H8 D' ok sx8 hA8 hran => ?_⟩
    · show [V.ref x, V.ref SL2, V.int _] = _
      rw [lck_int]
    · have hs' : s = tt.1 ∨ s = tt.2.1 ∨ s = tt.2.2 := by simpa using hs
      rcases hs' with rfl | rfl | rfl
      · exact lt3.1
      · exact lt3.2.1
      · exact lt3.2.2
    have sx9 : SameX dd H4 H8 := fun b u e n => sx8 _ _ (s7 _ _ (sx _ _ e n)) n
    have hv : ∀ b, val rs.length b (eqOf rs.length [tt.1, tt.2.1, tt.2.2] (lck N m tt)) = false ↔ (b tt.1 ^^ b tt.2.1 ^^ b tt.2.2) = (lck N m tt == 1) := fun b => by
      rw [eqOf_val b (fun s hs => ?_) (lck_le N m tt)]
      · show ((((lck N m tt == 1) ^^ b tt.1) ^^ b tt.2.1) ^^ b tt.2.2) = false ↔ _
        cases (lck N m tt == 1) <;> cases b tt.1 <;> cases b tt.2.1 <;> cases b tt.2.2 <;> simp
      · have hs' : s = tt.1 ∨ s = tt.2.1 ∨ s = tt.2.2 := by simpa using hs
        rcases hs' with rfl | rfl | rfl
        · exact lt3.1
        · exact lt3.2.1
        · exact lt3.2.2
    have step : ∀ b, SysI rs N m (i + 1) b ↔ SysI rs N m i b ∧ (b tt.1 ^^ b tt.2.1 ^^ b tt.2.2) = (lck N m tt == 1) := fun b => by
      unfold SysI
      rw [List.take_succ, htt]
      constructor
      · rintro ⟨h1, h2⟩
        exact ⟨⟨h1, fun t ht => h2 t (List.mem_append_left _ ht)⟩, h2 tt (by simp)⟩
      · rintro ⟨⟨h1, h2⟩, h3⟩
        refine ⟨h1, fun t ht => ?_⟩
        rcases List.mem_append.mp ht with z | z
        · exact h2 t z
        · have : t = tt := by simpa using z
          rw [this]
          exact h3
    cases ok with
    | true =>
      refine ⟨_, rfl, ?_⟩
      refine iteF ⟨⟨_, _, _, _, rfl⟩, sx9, D', hA8, hran.good, fun b => ?_⟩
      rw [step, ← hsat, ← hv]
      constructor
      · exact fun z => ⟨fun p hp => z p (hran.sub p hp), hran.full rfl b z⟩
      · exact fun z => (hran.sound b z.1 z.2).2
    | false =>
      refine ⟨_, rfl, ?_⟩
      refine iteT (q1 _ (fun b u e => sx9 _ _ (sH4 _ _ e) (ne_of_none e hdd)) fun b hb => ?_)
      have z := (hran.sound b ((hsat b).mpr ⟨hb.1, fun t ht => hb.2 t (List.mem_of_mem_take ht)⟩) ((hv b).mpr (hb.2 tt mt))).1
      cases z
  · obtain ⟨⟨_, _, _, _, rfl⟩, sx, D, hA5, hG, hsat⟩ := p
    rw [List.length_map, ltp] at hsat
    refine ⟨_, rfl, q2 x dd D H' (fun b u e => sx _ _ (sH4 _ _ e) (ne_of_none e hdd)) hdd hA5 hG fun b => ?_⟩
    rw [hsat]
    unfold SysI SysOk
    rw [List.take_length]
end
end K61

set_option Elab.async false
set_option maxRecDepth 100000
set_option maxHeartbeats 4000000
namespace K61
open PySem PySem.Spec PyProof.Rows L2
section
variable {P : Program} {w : World} {K : PySem.W.Frag} {mg : Str → Option Value} {base : Heap}
def zerosN (rs : Rows) : List Nat := List.replicate rs.length 0
/-- a hom to the group of two signs -/
abbrev HomB (rs : Rows) (b : Nat → Bool) : Prop := SysOk rs (zerosN rs) 1 b
def Two (rs : Rows) : Prop := ∃ b1 b2, HomB rs b1 ∧ HomB rs b2 ∧ NonZ rs.length b1 ∧ NonZ rs.length b2 ∧ ¬ Agree rs.length b1 b2
def addN (N bs : List Nat) (r : Nat) : List Nat := (N.zip bs).map fun z => z.1 + r * z.2
structure One (rs : Rows) (M : Nat) (Iv : Nat → List Nat → Prop) : Prop where
  ex : ∃ b, HomB rs b ∧ NonZ rs.length b
  un : ∀ b b', HomB rs b → HomB rs b' → NonZ rs.length b → NonZ rs.length b' → Agree rs.length b b'
  start : ∀ N : List Nat, N.length = rs.length → HomB rs (bitOf N) → NonZ rs.length (bitOf N) → (∀ s, N.getD s 0 ≤ 1) → Iv 2 N
  lift : ∀ r N, 2 ≤ r → r < M → N.length = rs.length → Iv r N → ∃ b, SysOk rs N r b
  next : ∀ r N bs, 2 ≤ r → r < M → N.length = rs.length → bs.length = rs.length → (∀ s, bs.getD s 0 ≤ 1) → Iv r N → SysOk rs N r (bitOf bs) → Iv (2 * r) (addN N bs r)
theorem zerosN_get (rs : Rows) (s : Nat) : (zerosN rs).getD s 0 = 0 := by
  unfold zerosN
  rw [List.getD_eq_getElem?_getD, List.getElem?_replicate]
  split <;> rfl
theorem hom_zero (rs : Rows) : HomB rs (fun _ => false) := ⟨rfl, fun t _ => by
  unfold lck
  rw [zerosN_get, zerosN_get, zerosN_get]
  rfl⟩
def spSN : Sp := fun vs H Q _ => ∃ (a : Addr) (rs : Rows) (M : Nat), vs = [.ref a, vn M] ∧ TupR H a rs ∧ Lat rs ∧ 2 ≤ rs.length ∧ M ≤ 1000 ∧
  ((Two rs ∧ ∀ H', Same H H' → Q .non H') ∨ ((∃ Iv, One rs M Iv) ∧ ∀ p H' N, Same H H' → LstN H' p N → N.length = rs.length → Q (.ref p) H'))
theorem sc_sign_numbers : FnScope ["rows", "modulus", "first", "numbers", "reach", "halves", "number", "bit"] ["rows", "modulus"] (defScope (top 46)) := ⟨rfl, rfl, rfl, by decide +kernel, rfl, by decide +kernel, by decide +kernel⟩
theorem ok_sign_numbers (T : Txt K mg) (c_halves_of : Cal P w K mg base 6 "halves_of" (spHalvesOf K)) (m_Halves_free : FnR P w K mg base CX0 3 (He.ma K (He.ga K "Halves") "free") (spFree K)) (m_Halves_bits : FnR P w K mg base CX0 3 (He.ma K (He.ga K "Halves") "bits") (spBits K)) : Cal P w K mg base (8) "sign_numbers" (spSN) := by
  obtain ⟨fd, F⟩ := T.f_sign_numbers
  refine cal_of T.g_sign_numbers F sc_sign_numbers (fun vs H Q E h => by first | (obtain ⟨_, rfl, _⟩ := h; rfl) | (obtain ⟨_, _, rfl, _⟩ := h; rfl) | (obtain ⟨_, _, _, rfl, _⟩ := h; rfl) | (obtain ⟨_, _, _, _, rfl, _⟩ := h; rfl) | (obtain ⟨_, _, _, _, _, rfl, _⟩ := h; rfl) | (obtain ⟨_, _, _, _, _, _, rfl, _⟩ := h; rfl) | (obtain ⟨_, _, _, _, _, _, _, rfl, _⟩ := h; rfl) | (obtain ⟨_, _, _, _, _, _, _, _, rfl, _⟩ := h; rfl)) (fun _ _ _ _ _ _ us hl => match us, hl with | [_, _], _ => rfl) (fun cdv A outer s H vs Q E hr h => ?_)
  obtain ⟨a, rs, M, rfl, hT, L, h2, hM, q⟩ := h
  have hT' := hT
  obtain ⟨ps, ha, hE⟩ := hT'
  have h12 := L.le
  have lp := hE.length
  refine ⟨_, (pss_cons (ps_set (i := 2) sc_sign_numbers.nd rfl (Or.inl rfl) (pe_cal c_halves_of (hr.mono (by decide)) (pa_cons (pv 0) (pa_cons (pe_op op_rep (pe_lst (pa_cons (pe_int) pa_nil)) (pe_callB (lenK (K := K) rfl) (by rfl) T.z_len (by decide +kernel) (pa_cons (pv 0) pa_nil))) (pa_cons (pe_int) pa_nil)))))
      (pss_cons (ps_if (pt_cmpR op_ne (pe_callB (lenK (K := K) rfl) (by rfl) T.z_len (by decide +kernel) (pa_cons (SlX.pe_methSl0 (pv 2) T.s_Halves T.m_Halves_free m_Halves_free (hr.mono (by decide)) pass0) pa_nil)) (pe_int) (nomark _)) (pss_one (ps_ret (pe_non))) pss_nil)
      (pss_cons (ps_asg (pe_tup (pa_cons (SlX.pe_methSl (pv 2) T.s_Halves T.m_Halves_bits m_Halves_bits (hr.mono (by decide)) pass0 (pa_cons (pe_int) pa_nil)) (pa_cons (pe_int) pa_nil))) (pgTup (K := K) (n := 2) rfl rfl (pgs_cons (pg_name (i := 3) sc_sign_numbers.nd rfl (Or.inl rfl)) (pgs_cons (pg_name (i := 4) sc_sign_numbers.nd rfl (Or.inr rfl)) pgs_nil))))
      (pss_cons (ps_while PassesOwn.never (pt_cmpR op_lt (pv 4) (pv 1) (nomark _)) (pss_cons (ps_set (i := 5) sc_sign_numbers.nd rfl (Or.inl rfl) (pe_cal c_halves_of (hr.mono (by decide)) (pa_cons (pv 0) (pa_cons (pv 3) (pa_cons (pv 4) pa_nil)))))
      (pss_cons (ps_if (pt_cmpR op_isN (pv 5) (pe_non) (nomark _)) (pss_one (ps_ret (pe_non))) pss_nil)
      (pss_cons (ps_setLc (i := 3) (own := [("number", 6), ("bit", 7)]) rfl sc_sign_numbers.nd rfl rfl (sw_true rfl rfl rfl (by decide +kernel)) (RZ.pi_zipA (by rfl) T.z_zip (pa_cons (pv 3) (pa_cons (SlX.pe_methSl (pv 5) T.s_Halves T.m_Halves_bits m_Halves_bits (hr.mono (by decide)) pass0 (pa_cons (pe_int) pa_nil)) pa_nil))) (blkOk_by (own := [("number", 6), ("bit", 7)]) (N := ["rows", "modulus", "first", "numbers", "reach", "halves", "number", "bit"]) (sc := defScope (top 46)) (by first | decide +kernel | kernel_rfl | rfl)) (fun _ _ _ _ _ => (pgTup (K := K) (n := 2) rfl rfl (pgs_cons (pg_name (i := 6) sc_sign_numbers.nd rfl (Or.inl rfl)) (pgs_cons (pg_name (i := 7) sc_sign_numbers.nd rfl (Or.inl rfl)) pgs_nil)))) (fun _ _ _ _ _ => pts_nil) (fun _ _ _ _ _ => (pe_op op_add (pv 6) (pe_op op_mul (pv 4) (pv 7)))))
      (pss_one (ps_aug (i := 4) sc_sign_numbers.nd rfl (Or.inr rfl) (pe_int) ip_mul))))))
      (pss_one (ps_ret (pv 3))))))), ?_⟩
  refine ⟨_, rfl, (by decide : 1 ≤ sizeLine), fun Z hZ => ⟨_, rfl, a, _, rfl, .inr (SqT.of (same_upd hZ _ _ ha)), Z, _, _, rfl, rfl, upd_same, by rw [List.length_map]; omega, by rw [List.length_map]; omega, ?_, fun ZL hZL => ?_⟩⟩
  · show 1 * (((ps.map V.ref).length : Nat) : Int).toNat ≤ sizeLine
    have hz : sizeLine = 16777216 := sizeLine_eq
    rw [List.length_map, Int.toNat_natCast]
    omega
  have nZ : Z ≠ ZL := fun z => by rw [← z, upd_same] at hZL; cases hZL
  have hZL0 : H ZL = none := by rw [upd_ne nZ.symm] at hZL; exact hZL
  have s2 : Same H (upd (upd H Z (.lst [vn 0])) ZL (.lst (List.replicate (((ps.map V.ref).length : Nat) : Int).toNat [vn 0]).flatten)) := fun b u e => by rw [upd_ne (ne_of_none e hZL0), upd_ne (ne_of_none e hZ)]; exact e
  have l2 : LstN (upd (upd H Z (.lst [vn 0])) ZL (.lst (List.replicate (((ps.map V.ref).length : Nat) : Int).toNat [vn 0]).flatten)) ZL (zerosN rs) := by
    show upd _ _ _ _ = _
    rw [upd_same, Int.toNat_natCast, List.length_map, lp]
    congr 2
    unfold zerosN
    simp
  generalize upd (upd H Z (.lst [vn 0])) ZL (.lst (List.replicate (((ps.map V.ref).length : Nat) : Int).toNat [vn 0]).flatten) = H2 at s2 l2 ⊢
  refine ⟨a, ZL, rs, zerosN rs, 1, rfl, hT.mono s2, L, h2, l2, List.length_replicate, by omega, by omega, fun H' _ no => absurd (hom_zero rs) (no _), fun x dd D H3 s3 hdd hA hG hsat => ?_⟩
  have sH3 : Same H H3 := fun b u e => s3 _ _ (s2 _ _ e)
  have sat0 : Sat rs.length (fun _ => false) D := (hsat _).mpr (hom_zero rs)
  have hA' := hA
  obtain ⟨dx, wt, k0, _⟩ := hA'
  refine ⟨_, rfl, x, dx, _, rfl, k0, x, dd, rs.length, D, rfl, hA, h12, fun FL H4 s4 hFL => ⟨FL, _, rfl, .inl (SqL.of hFL), rfl, _, rfl, ?_⟩⟩
  rw [List.length_map]
  have sH4 : Same H H4 := fun b u e => s4 _ _ (sH3 _ _ e)
  have e1 : (!decide (V.int ((freeL rs.length D).length : Int) = V.int 1)) = !decide ((freeL rs.length D).length = 1) := by rw [← dec_vn _ 1]; rfl
  rw [e1]
  rcases q with ⟨two, q⟩ | ⟨⟨Iv, one⟩, q⟩
  · obtain ⟨b1, b2, x1, x2, x3, x4, x5⟩ := two
    rw [decide_eq_false (free_bad hG sat0 ((hsat _).mpr x1) ((hsat _).mpr x2) x3 x4 x5)]
    exact iteT (q H4 sH4)
  obtain ⟨b0, hb0, nb0⟩ := one.ex
  have f1 := free_good hG sat0 ((hsat _).mpr hb0) nb0 fun b b' z z' => one.un b b' ((hsat _).mp z) ((hsat _).mp z')
  rw [decide_eq_true f1]
  refine iteF ?_
  refine ⟨_, rfl, x, dx, _, rfl, Slt.mono k0 s4, x, dd, rs.length, D, 1, rfl, hA.mono s4, hG, h12, by omega, fun NL H5 bs s5 hnl lbs lbn hb1 hsb hfb => ⟨(by decide : 2 ≤ sizeLine), fun Tp hTp => ?_⟩⟩
  have s6 := same_upd (o := .tup [V.ref NL, V.int 2]) hTp
  have sH6 : Same H (upd H5 Tp (.tup [V.ref NL, V.int 2])) := fun b u e => s6 _ _ (s5 _ _ (sH4 _ _ e))
  refine ⟨Tp, _, rfl, SqT.of upd_same, rfl, _, _, rfl, _, _, rfl, rfl, ?_⟩
  have hIv2 : Iv 2 bs := one.start bs lbn ((hsat _).mp hsb) (by
    obtain ⟨f, hf⟩ := List.length_eq_one_iff.mp f1
    have mf : f ∈ freeL rs.length D := by rw [hf]; exact List.mem_cons_self
    refine ⟨f, (mem_free.mp mf).1, ?_⟩
    unfold bitOf
    rw [hfb f mf]
    rfl) hb1
  have lN6 := s6 _ _ lbs
  generalize upd H5 Tp (.tup [V.ref NL, V.int 2]) = H6 at s6 sH6 lN6 ⊢
  refine ⟨fun m σ H' => m ≤ 10 ∧ ∃ p N r x1 x2 x3, σ = [some (.ref a), some (vn M), some (.ref x), some (.ref p), some (vn r), x1, x2, x3] ∧ Same H H' ∧ LstN H' p N ∧ N.length = rs.length ∧ 2 ≤ r ∧ M ≤ r * 2 ^ m ∧ Iv r N, ⟨10, by omega, NL, bs, 2, _, _, _, rfl, sH6, lN6, lbn, by omega, ?_, hIv2⟩, fun m σ H' p => ?_⟩
  · have e10 : 2 ^ 10 = 1024 := by decide
    omega
  obtain ⟨hm, p, N, r, y1, y3, y4, rfl, sH, lN, lnn, hr2, hMr, hIv⟩ := p
  refine ⟨_, rfl, _, rfl, _, _, rfl, rfl, _, rfl, ?_⟩
  by_cases hlt : r < M
  case neg =>
    rw [decide_eq_false (by omega)]
    exact iteF ⟨_, rfl, q p H' N sH lN lnn⟩
  rw [decide_eq_true (by omega)]
  refine iteT ?_
  cases m with
  | zero => omega
  | succ m =>
  refine ⟨fun σ' H'' => m ≤ 10 ∧ ∃ p N r x1 x2 x3, σ' = [some (.ref a), some (vn M), some (.ref x), some (.ref p), some (vn r), x1, x2, x3] ∧ Same H H'' ∧ LstN H'' p N ∧ N.length = rs.length ∧ 2 ≤ r ∧ M ≤ r * 2 ^ m ∧ Iv r N, fun σ' H'' p => ⟨m, Nat.lt_succ_self _, p⟩, ?_⟩
  obtain ⟨bl, hbl⟩ := one.lift r N hr2 hlt lnn hIv
  refine ⟨_, rfl, _, rfl, _, rfl, a, p, rs, N, r, rfl, hT.mono sH, L, h2, lN, lnn, by omega, by omega, fun H'' _ no => absurd hbl (no _), fun x2 dd2 D2 H7 s7 hdd2 hA2 hG2 hsat2 => ?_⟩
  have sH7 : Same H H7 := fun b u e => s7 _ _ (sH _ _ e)
  have lN7 := s7 _ _ lN
  refine ⟨_, rfl, rfl, _, rfl, ?_⟩
  rw [decide_eq_false (fun z => nomatch z)]
  refine iteF ?_
  have hA2' := hA2
  obtain ⟨dx2, wt2, k2, _⟩ := hA2'
  refine ⟨_, rfl, _, rfl, x2, dx2, _, rfl, k2, x2, dd2, rs.length, D2, 0, rfl, hA2, hG2, h12, by omega, fun BL H8 b2 s8 hBL lb2 lbn2 hb12 hsb2 _ => ?_⟩
  have sH8 : Same H H8 := fun b u e => s8 _ _ (sH7 _ _ e)
  refine ⟨p, BL, _, _, rfl, .inl ⟨SqL.of (s8 _ _ lN7), SqL.of lb2, fun D3 hD3 => ?_⟩⟩
  refine lc_gen (walk_zip (n := rs.length) (by rw [List.length_map, List.length_map]; omega)) (by omega) hD3 (fun H' sm => ⟨SqL.of (sm _ _ (s8 _ _ lN7)), SqL.of (sm _ _ lb2)⟩) (fun _ k y => y = vn (N.getD k 0 + r * b2.getD k 0)) (fun _ _ _ _ _ h => h) (fun k v H0 H' acc Kf hk sm hacc hy hK => ?_) (fun ys H' sm hy ly hr' => ?_)
  · obtain ⟨Tq, y1, y2, rfl, hTq, rfl, e1, e2⟩ := hy
    have e1' : (N.map vn)[k]? = some y1 := e1
    have e2' : (b2.map vn)[k]? = some y2 := e2
    rw [List.getElem?_map, List.getElem?_eq_getElem (by omega)] at e1' e2'
    cases e1'
    cases e2'
    have hb := hb12 k
    rw [getD_of (List.getElem?_eq_getElem (show k < b2.length by omega))] at hb
    refine ⟨Tq, _, rfl, SqT.of upd_same, rfl, _, _, rfl, _, _, rfl, rfl, rfl, ?_⟩
    refine ⟨_, rfl, _, rfl, _, rfl, _, _, rfl, rfl, .inr ⟨by omega, by omega⟩, _, _, rfl, rfl, hK _ _ (same_upd hTq) ?_⟩
    show V.int (((N[k]'(by omega) : Nat) : Int) + (r : Int) * ((b2[k]'(by omega) : Nat) : Int)) = V.int ((N.getD k 0 + r * b2.getD k 0 : Nat) : Int)
    rw [getD_of (List.getElem?_eq_getElem (show k < b2.length by omega)), getD_of (List.getElem?_eq_getElem (show k < N.length by omega)), Int.natCast_add, Int.natCast_mul]
  · have e2 : ys = (addN N b2 r).map vn := by
      rw [ints_of ys (fun k => N.getD k 0 + r * b2.getD k 0) hr', ly]
      congr 1
      unfold addN
      refine List.ext_getElem? fun k => ?_
      by_cases hk : k < rs.length
      · rw [List.getElem?_map, List.getElem?_range hk, List.getElem?_map, List.getElem?_eq_getElem (l := N.zip b2) (by rw [List.length_zip]; omega), List.getElem_zip]
        show some (N.getD k 0 + r * b2.getD k 0) = some (N[k] + r * b2[k])
        rw [getD_of (List.getElem?_eq_getElem (show k < b2.length by omega)), getD_of (List.getElem?_eq_getElem (show k < N.length by omega))]
      · rw [List.getElem?_eq_none (by simpa using hk), List.getElem?_eq_none (by simp; omega)]
    refine ⟨_, rfl, _, _, rfl, rfl, .inr ⟨by omega, by omega⟩, by omega, D3, addN N b2 r, 2 * r, some (.ref x2), y3, y4, ?_, fun b u e => sm _ _ (sH8 _ _ e), (by show H' D3 = _; rw [← e2]; exact hy), ?_, by omega, ?_, one.next r N b2 hr2 hlt lnn lbn2 hb12 hIv ((hsat2 _).mp hsb2)⟩
    · show [_, _, _, _, some (V.int ((r : Int) * 2)), _, _, _] = _
      rw [show (r : Int) * 2 = ((2 * r : Nat) : Int) by omega]
    · unfold addN
      rw [List.length_map, List.length_zip]
      omega
    · rw [Nat.pow_succ] at hMr
      rw [Nat.mul_comm 2 r, Nat.mul_assoc, Nat.mul_comm 2]
      exact hMr
def spSum (K : PySem.W.Frag) : Sp := fun vs H Q _ => ∃ (t : Addr) (rs : Rows), vs = [.ref t] ∧ TabAt K H t rs ∧ Lat rs ∧ share rs.length ≤ 1000 ∧
  ((share rs.length ≤ 1 ∨ (2 ≤ rs.length ∧ Two rs)) ∧ (∀ H', Same H H' → Q .non H') ∨ (2 ≤ rs.length ∧ 1 < share rs.length ∧ ∃ Iv, One rs (share rs.length) Iv) ∧ ∀ p H', Same H H' → Q (.ref p) H')
theorem sc_sum_bar : FnScope ["table", "modulus", "rows", "numbers", "heads", "row", "sign"] ["table"] (defScope (top 47)) := ⟨rfl, rfl, rfl, by decide +kernel, rfl, by decide +kernel, by decide +kernel⟩
theorem ok_sum_bar (T : Txt K mg) (c_require_table : Cal P w K mg base 3 "require_table" (spReqTable K)) (c_even_share : Cal P w K mg base 2 "even_share" spShare) (c_sign_numbers : Cal P w K mg base 8 "sign_numbers" spSN) : Cal P w K mg base (9) "sum_bar" (spSum K) := by
  obtain ⟨fd, F⟩ := T.f_sum_bar
  refine cal_of T.g_sum_bar F sc_sum_bar (fun vs H Q E h => by first | (obtain ⟨_, rfl, _⟩ := h; rfl) | (obtain ⟨_, _, rfl, _⟩ := h; rfl) | (obtain ⟨_, _, _, rfl, _⟩ := h; rfl) | (obtain ⟨_, _, _, _, rfl, _⟩ := h; rfl) | (obtain ⟨_, _, _, _, _, rfl, _⟩ := h; rfl) | (obtain ⟨_, _, _, _, _, _, rfl, _⟩ := h; rfl) | (obtain ⟨_, _, _, _, _, _, _, rfl, _⟩ := h; rfl) | (obtain ⟨_, _, _, _, _, _, _, _, rfl, _⟩ := h; rfl)) (fun _ _ _ _ _ _ us hl => match us, hl with | [_], _ => rfl) (fun cdv A outer s H vs Q E hr h => ?_)
  obtain ⟨t, rs, rfl, hTab, L, hM, q⟩ := h
  have hTab' := hTab
  obtain ⟨dx, p1, p2, r, hS, hR⟩ := hTab'
  have h12 := L.le
  have hpos := L.pos
  have hR' := hR
  obtain ⟨ps, ha, hE⟩ := hR'
  have lp := hE.length
  refine ⟨_, (pss_cons (ps_expr (pe_cal c_require_table (hr.mono (by decide)) (pa_cons (pv 0) pa_nil)))
      (pss_cons (ps_par (i := 1) (j := 2) rfl sc_sum_bar.nd rfl rfl (by decide) rfl rfl (pa_cons (pe_cal c_even_share (hr.mono (by decide)) (pa_cons (peSl (K := K) rfl (pv 0)) pa_nil)) (pa_cons (peSl (K := K) rfl (pv 0)) pa_nil)) (by rfl))
      (pss_cons (ps_set (i := 3) sc_sum_bar.nd rfl (Or.inr rfl) (pe_ifExp (pt_cmpR op_gt (pv 1) (pe_int) (nomark _)) (pe_cal c_sign_numbers (hr.mono (by decide)) (pa_cons (pv 2) (pa_cons (pv 1) pa_nil))) (pe_non)))
      (pss_cons (ps_if (pt_cmpR op_isN (pv 3) (pe_non) (nomark _)) (pss_one (ps_ret (pe_non))) pss_nil)
      (pss_cons (ps_set (i := 4) sc_sum_bar.nd rfl (Or.inl rfl) (pe_tup (pa_cons (pe_callTy (tupOfK (K := K) rfl) (by rfl) T.z_tuple (by decide +kernel) (pa_cons (pe_lc (own := [("row", 5)]) rfl sc_sum_bar.nd (piT (K := K) rfl (pv 2)) (blkOk_by (own := [("row", 5)]) (N := ["table", "modulus", "rows", "numbers", "heads", "row", "sign"]) (sc := defScope (top 47)) (by first | decide +kernel | kernel_rfl | rfl)) (fun _ _ _ _ _ => (pg_name (i := 5) sc_sum_bar.nd rfl (Or.inl rfl))) (fun _ _ _ _ _ => pts_nil) (fun _ _ _ _ _ => (pe_ix (ixL (K := K) rfl) (pv 3) (pe_ix (ixT (K := K) rfl) (pv 5) (pe_int) (fun _ _ => rfl)) (fun _ _ => rfl)))) pa_nil)) (pa_cons (pe_callTy (tupOfK (K := K) rfl) (by rfl) T.z_tuple (by decide +kernel) (pa_cons (pe_lc (own := [("sign", 6)]) rfl sc_sum_bar.nd (piT (K := K) rfl (pe_ix (ixT (K := K) rfl) (pv 2) (pe_int) (fun _ _ => rfl))) (blkOk_by (own := [("sign", 6)]) (N := ["table", "modulus", "rows", "numbers", "heads", "row", "sign"]) (sc := defScope (top 47)) (by first | decide +kernel | kernel_rfl | rfl)) (fun _ _ _ _ _ => (pg_name (i := 6) sc_sum_bar.nd rfl (Or.inl rfl))) (fun _ _ _ _ _ => pts_nil) (fun _ _ _ _ _ => (pe_ix (ixL (K := K) rfl) (pv 3) (pv 6) (fun _ _ => rfl)))) pa_nil)) pa_nil))))
      (pss_one (ps_ret (pe_tup (pa_cons (pv 1) (StX.pa_star (pv 4) (pa_cons (pe_callTy (tupOfK (K := K) rfl) (by rfl) T.z_tuple (by decide +kernel) (pa_cons (pv 3) pa_nil)) pa_nil))))))))))), ?_⟩
  refine ⟨_, rfl, t, rs, rfl, hTab, ?_⟩
  refine ⟨_, rfl, t, _, dx, _, _, _, vn rs.length, rfl, hS, T.s_Table, T.l_Table_own_order, rfl, rs.length, rfl, hpos, by omega, _, rfl, t, _, dx, _, _, _, .ref r, rfl, hS, T.s_Table, T.l_Table_own_rows, rfl, _, _, rfl, ?_⟩
  refine ⟨_, rfl, _, _, rfl, rfl, _, rfl, ?_⟩
  by_cases hs : 1 < share rs.length
  case neg =>
    rw [decide_eq_false (by omega)]
    refine iteF ?_
    refine ⟨_, rfl, rfl, _, rfl, ?_⟩
    rw [decide_eq_true rfl]
    refine iteT ?_
    rcases q with ⟨_, q⟩ | ⟨⟨_, z, _⟩, _⟩
    · exact q H sRefl
    · exact absurd z hs
  rw [decide_eq_true (by omega)]
  refine iteT ?_
  rcases q with ⟨q1, q⟩ | ⟨⟨h2, _, one⟩, q⟩
  · obtain ⟨h2, two⟩ := q1.resolve_left (by omega)
    refine ⟨_, rfl, _, rfl, r, rs, share rs.length, rfl, hR, L, h2, hM, .inl ⟨two, fun H' sm => ?_⟩⟩
    refine ⟨_, rfl, rfl, _, rfl, ?_⟩
    rw [decide_eq_true rfl]
    exact iteT (q H' sm)
  · refine ⟨_, rfl, _, rfl, r, rs, share rs.length, rfl, hR, L, h2, hM, .inr ⟨one, fun p H1 N s1 lN lnn => ?_⟩⟩
    refine ⟨_, rfl, rfl, _, rfl, ?_⟩
    rw [decide_eq_false (fun z => nomatch z)]
    refine iteF ?_
    refine ⟨_, rfl, r, rfl, ⟨_, SqT.of (s1 _ _ ha)⟩, fun D hD => ?_⟩
    refine lc_gen walk_tup (by rw [List.length_map]; omega) hD (fun H' sm => SqT.of (sm _ _ (s1 _ _ ha))) (fun _ _ _ => True) (fun _ _ _ _ _ h => h) (fun k v H0 H' acc Kf hk sm hacc hy hK => ?_) (fun ys H2 sm2 hy ly _ => ?_)
    · obtain ⟨rfl, hx⟩ := hy
      obtain ⟨qr, row, rfl, hrow, tr⟩ := hE.refs hx
      have prow := perm_lt (L.row row (List.mem_of_getElem? hrow))
      have h0 : row.getD 0 0 < rs.length := by
        rw [List.getD_eq_getElem?_getD, List.getElem?_eq_getElem (by omega)]
        exact prow.2 _ (List.getElem_mem _)
      exact ⟨rfl, _, rfl, _, rfl, qr, _, ((0 : Nat) : Int), _, rfl, rfl, SqT.of (sm _ _ (s1 _ _ tr)), atN (by omega), p, _, _, _, rfl, rfl, SqL.of (sm _ _ lN), atN (by omega), hK _ _ sRefl trivial⟩
    refine ⟨D, ys, rfl, .inl ⟨SqL.of hy, fun P2 hP2 => ?_⟩⟩
    obtain ⟨a0, hq0, t0⟩ := hE.get' L.first
    have s3 := same_upd (o := .tup ys) hP2
    have s13 : Same H (upd H2 P2 (.tup ys)) := fun b u e => s3 _ _ (sm2 _ _ (s1 _ _ e))
    have lN3 := s3 _ _ (sm2 _ _ lN)
    generalize upd H2 P2 (.tup ys) = H3 at s3 s13 lN3
    refine ⟨_, rfl, r, _, ((0 : Nat) : Int), .ref a0, rfl, rfl, SqT.of (s13 _ _ ha), atV (by rw [List.getElem?_map, hq0]; rfl), a0, rfl, ⟨_, SqT.of (s13 _ _ t0)⟩, fun D2 hD2 => ?_⟩
    refine lc_gen walk_tup (by rw [List.length_map, List.length_range]; omega) hD2 (fun H' sm => SqT.of (sm _ _ (s13 _ _ t0))) (fun _ _ _ => True) (fun _ _ _ _ _ h => h) (fun k v H0 H' acc Kf hk sm hacc hy hK => ?_) (fun ys2 H4 sm4 hy4 ly4 _ => ?_)
    · obtain ⟨rfl, hx⟩ := hy
      rw [List.length_map, List.length_range] at hk
      rw [List.getElem?_map, List.getElem?_range hk] at hx
      cases hx
      exact ⟨rfl, _, rfl, _, rfl, p, _, _, _, rfl, rfl, SqL.of (sm _ _ lN3), atN (by omega), hK _ _ sRefl trivial⟩
    refine ⟨D2, ys2, rfl, .inl ⟨SqL.of hy4, fun P5 hP5 => ?_⟩⟩
    have s5 := same_upd (o := .tup ys2) hP5
    have s35 : Same H3 (upd H4 P5 (.tup ys2)) := fun b u e => s5 _ _ (sm4 _ _ e)
    generalize upd H4 P5 (.tup ys2) = H5 at s5 s35
    refine ⟨(by decide : 2 ≤ sizeLine), fun Hd hHd => ?_⟩
    have s6 := same_upd (o := .tup [V.ref P2, V.ref P5]) hHd
    have hHd6 : upd H5 Hd (.tup [V.ref P2, V.ref P5]) Hd = some (.tup [V.ref P2, V.ref P5]) := upd_same
    have s36 : Same H3 (upd H5 Hd (.tup [V.ref P2, V.ref P5])) := fun b u e => s6 _ _ (s35 _ _ e)
    generalize upd H5 Hd (.tup [V.ref P2, V.ref P5]) = H6 at s6 s36 hHd6
    refine ⟨_, rfl, _, rfl, Hd, _, rfl, .inl (SqT.of hHd6), _, rfl, p, _, rfl, .inl ⟨SqL.of (s36 _ _ lN3), fun P7 hP7 => ⟨(by decide : 4 ≤ sizeLine), fun P8 hP8 => q P8 _ fun b u e => ?_⟩⟩⟩
    have e6 := s36 _ _ (s13 _ _ e)
    have e7 : upd H6 P7 (.tup (N.map vn)) b = some u := by rw [upd_ne (ne_of_none e6 hP7)]; exact e6
    rw [upd_ne (ne_of_none e7 hP8)]
    exact e7
end
end K61

set_option Elab.async false
set_option maxRecDepth 100000
set_option maxHeartbeats 4000000
namespace K61
open PySem PySem.Spec PyProof.Rows L2
section
variable {P : Program} {w : World} {K : PySem.W.Frag} {mg : Str → Option Value} {base : Heap}
/-- the urn -/
def Urn (H : Hp) (u : Addr) : Prop := ∃ a b c : Int, H u = some (.lst [.int a, .int b, .int c])
theorem Urn.mono {H H' : Hp} {u : Addr} (h : Urn H u) (s : Same H H') : Urn H' u := let ⟨a, b, c, e⟩ := h; ⟨a, b, c, s _ _ e⟩
def spDraw : Sp := fun vs H Q _ => ∃ (u : Addr) (t : Nat), vs = [.ref u, vn t] ∧ Urn H u ∧ 1 ≤ t ∧ t ≤ 1000 ∧ ∀ r H', r < t → SameX u H H' → Urn H' u → Q (vn r) H'
theorem mod_nat (a : Int) {t : Nat} (h : 1 ≤ t) : ∃ r : Nat, a % (t : Int) = (r : Int) ∧ r < t := by
  have h1 := Int.emod_nonneg a (show (t : Int) ≠ 0 by omega)
  have h2 := Int.emod_lt_of_pos a (show (0 : Int) < (t : Int) by omega)
  exact ⟨(a % (t : Int)).toNat, (Int.toNat_of_nonneg h1).symm, by omega⟩
theorem sc_law_draw : FnScope ["_law_urn_here", "_law_total", "_law_found", "_law_one", "_law_two"] ["_law_urn_here", "_law_total"] (defScope (top 63)) := ⟨rfl, rfl, rfl, by decide +kernel, rfl, by decide +kernel, by decide +kernel⟩
theorem ok_law_draw (T : Txt K mg)  : Cal P w K mg base (2) "_law_draw" (spDraw) := by
  obtain ⟨fd, F⟩ := T.f_law_draw
  refine cal_of T.g_law_draw F sc_law_draw (fun vs H Q E h => by first | (obtain ⟨_, rfl, _⟩ := h; rfl) | (obtain ⟨_, _, rfl, _⟩ := h; rfl) | (obtain ⟨_, _, _, rfl, _⟩ := h; rfl) | (obtain ⟨_, _, _, _, rfl, _⟩ := h; rfl) | (obtain ⟨_, _, _, _, _, rfl, _⟩ := h; rfl) | (obtain ⟨_, _, _, _, _, _, rfl, _⟩ := h; rfl) | (obtain ⟨_, _, _, _, _, _, _, rfl, _⟩ := h; rfl) | (obtain ⟨_, _, _, _, _, _, _, _, rfl, _⟩ := h; rfl)) (fun _ _ _ _ _ _ us hl => match us, hl with | [_, _], _ => rfl) (fun cdv A outer s H vs Q E hr h => ?_)
  obtain ⟨u, t, rfl, ⟨a, b, c, hu⟩, h1, h2, q⟩ := h
  refine ⟨_, (pss_cons (ps_if (pt_cmpR op_gt (pe_ix (ixL (K := K) rfl) (pv 0) (pe_int) (fun _ _ => rfl)) (pe_int) (nomark _)) (pss_cons (ps_set (i := 2) sc_law_draw.nd rfl (Or.inl rfl) (pe_op op_mod (pe_callTy call_int1 (by rfl) T.z_int (by decide +kernel) (pa_cons (pe_ix (ixL (K := K) rfl) (pv 0) (pe_int) (fun _ _ => rfl)) pa_nil)) (pv 1)))
      (pss_cons (ps_asg (pe_op op_fdiv (pe_ix (ixL (K := K) rfl) (pv 0) (pe_int) (fun _ _ => rfl)) (pv 1)) (pg_sub (pv 0) (pe_int) set_list))
      (pss_one (ps_ret (pv 2))))) pss_nil)
      (pss_cons (ps_asg (pe_op op_add (pe_ix (ixL (K := K) rfl) (pv 0) (pe_int) (fun _ _ => rfl)) (pe_int)) (pg_sub (pv 0) (pe_int) set_list))
      (pss_cons (ps_set (i := 3) sc_law_draw.nd rfl (Or.inl rfl) (pe_op op_mod (pe_callTy call_int1 (by rfl) T.z_int (by decide +kernel) (pa_cons (pe_op op_add (pe_op op_add (pe_op op_mul (pe_ix (ixL (K := K) rfl) (pv 0) (pe_int) (fun _ _ => rfl)) (pe_int)) (pe_op op_mul (pe_ix (ixL (K := K) rfl) (pv 0) (pe_int) (fun _ _ => rfl)) (pe_int))) (pe_int)) pa_nil)) (pe_int)))
      (pss_cons (ps_set (i := 4) sc_law_draw.nd rfl (Or.inl rfl) (pe_op op_mod (pe_callTy call_int1 (by rfl) T.z_int (by decide +kernel) (pa_cons (pe_op op_add (pe_op op_mul (pv 3) (pv 3)) (pe_op op_mul (pe_int) (pe_ix (ixL (K := K) rfl) (pv 0) (pe_int) (fun _ _ => rfl)))) pa_nil)) (pe_int)))
      (pss_one (ps_ret (pe_op op_mod (pe_callTy call_int1 (by rfl) T.z_int (by decide +kernel) (pa_cons (pe_op op_fdiv (pe_op op_mod (pe_callTy call_int1 (by rfl) T.z_int (by decide +kernel) (pa_cons (pe_op op_add (pe_op op_mul (pv 4) (pe_int)) (pv 3)) pa_nil)) (pe_int)) (pe_int)) pa_nil)) (pv 1)))))))), ?_⟩
  refine ⟨_, rfl, u, _, _, _, rfl, rfl, SqL.of hu, rfl, _, _, rfl, rfl, _, rfl, ?_⟩
  by_cases h0 : (0 : Int) < a
  · rw [decide_eq_true h0]
    refine iteT ?_
    obtain ⟨r, hr1, hr2⟩ := mod_nat a h1
    refine ⟨_, rfl, u, _, _, _, rfl, rfl, SqL.of hu, rfl, .inl ⟨_, rfl, _, rfl, _, _, rfl, rfl, by omega, ?_⟩⟩
    refine ⟨_, rfl, u, _, _, _, rfl, rfl, SqL.of hu, rfl, _, rfl, _, _, rfl, rfl, ⟨by omega, by omega⟩, _, rfl, u, _, _, _, rfl, rfl, hu, rfl, _, rfl, ?_⟩
    show Q (V.int (a % (t : Int))) _
    rw [hr1]
    exact q r _ hr2 (SameX.refl.upd) ⟨_, _, _, upd_same⟩
  · rw [decide_eq_false h0]
    refine iteF ?_
    refine ⟨_, rfl, u, _, _, _, rfl, rfl, SqL.of hu, rfl, _, _, rfl, rfl, _, rfl, u, _, _, _, rfl, rfl, hu, rfl, ?_⟩
    have hu2 : (upd H u (.lst (([V.int a, V.int b, V.int c].set 2 (V.int (c + 1)))))) u = some (.lst [V.int a, V.int b, V.int (c + 1)]) := upd_same
    have sx : SameX u H (upd H u (.lst (([V.int a, V.int b, V.int c].set 2 (V.int (c + 1)))))) := SameX.refl.upd
    have o1 := mod_nat (b * 49979687 + (c + 1) * 67867967 + 307) (t := 2305843009213693951) (by decide)
    obtain ⟨o, ho, ho2⟩ := o1
    refine ⟨_, rfl, u, _, _, _, rfl, rfl, SqL.of hu2, rfl, _, _, rfl, rfl, .inr ⟨by omega, by omega⟩, _, rfl, u, _, _, _, rfl, rfl, SqL.of hu2, rfl, _, _, rfl, rfl, .inr ⟨by omega, by omega⟩, _, _, rfl, rfl, _, _, rfl, rfl, .inl ⟨_, rfl, _, _, rfl, rfl, by omega, ?_⟩⟩
    have eo : V.int ((b * 49979687 + (c + 1) * 67867967 + 307) % 2305843009213693951) = vn o := congrArg V.int ho
    have hb : (0 : Int) ≤ (b * 49979687 + (c + 1) * 67867967 + 307) % 2305843009213693951 ∧ (b * 49979687 + (c + 1) * 67867967 + 307) % 2305843009213693951 < 2305843009213693951 := by omega
    refine ⟨_, rfl, _, rfl, _, _, rfl, rfl, .inl ⟨by omega, by omega⟩, _, rfl, u, _, _, _, rfl, rfl, SqL.of hu2, rfl, _, _, rfl, rfl, .inl ⟨by omega, by omega⟩, _, _, rfl, rfl, .inl ⟨_, rfl, _, _, rfl, rfl, by omega, ?_⟩⟩
    refine ⟨_, rfl, _, _, rfl, rfl, .inr ⟨by omega, by omega⟩, _, rfl, _, _, rfl, rfl, .inl ⟨_, rfl, _, _, rfl, rfl, by omega, _, _, rfl, rfl, ⟨by omega, by omega⟩, .inl ⟨_, rfl, _, rfl, _, _, rfl, rfl, by omega, ?_⟩⟩⟩
    obtain ⟨r, hr1, hr2⟩ := mod_nat ((((b * 49979687 + (c + 1) * 67867967 + 307) % 2305843009213693951 * ((b * 49979687 + (c + 1) * 67867967 + 307) % 2305843009213693951) + 86028121 * (c + 1)) % 2305843009213693921 * 41 + (b * 49979687 + (c + 1) * 67867967 + 307) % 2305843009213693951) % 4611686018427387847 / 65536) h1
    show Q (V.int (_ % (t : Int))) _
    rw [hr1]
    exact q r _ hr2 sx ⟨_, _, _, hu2⟩
/-- one of a list's items -/
def spPick : Sp := fun vs H Q _ => ∃ (u L : Addr) (xs : List V), vs = [.ref u, .ref L] ∧ Urn H u ∧ H L = some (.lst xs) ∧ L ≠ u ∧ 1 ≤ xs.length ∧ xs.length ≤ 1000 ∧ ∀ v H', v ∈ xs → SameX u H H' → Urn H' u → Q v H'
theorem sc_law_pick : FnScope ["_law_urn_here", "_law_items"] ["_law_urn_here", "_law_items"] (defScope (top 64)) := ⟨rfl, rfl, rfl, by decide +kernel, rfl, by decide +kernel, by decide +kernel⟩
theorem ok_law_pick (T : Txt K mg) (c_law_draw : Cal P w K mg base 2 "_law_draw" spDraw) : Cal P w K mg base (3) "_law_pick" (spPick) := by
  obtain ⟨fd, F⟩ := T.f_law_pick
  refine cal_of T.g_law_pick F sc_law_pick (fun vs H Q E h => by first | (obtain ⟨_, rfl, _⟩ := h; rfl) | (obtain ⟨_, _, rfl, _⟩ := h; rfl) | (obtain ⟨_, _, _, rfl, _⟩ := h; rfl) | (obtain ⟨_, _, _, _, rfl, _⟩ := h; rfl) | (obtain ⟨_, _, _, _, _, rfl, _⟩ := h; rfl) | (obtain ⟨_, _, _, _, _, _, rfl, _⟩ := h; rfl) | (obtain ⟨_, _, _, _, _, _, _, rfl, _⟩ := h; rfl) | (obtain ⟨_, _, _, _, _, _, _, _, rfl, _⟩ := h; rfl)) (fun _ _ _ _ _ _ us hl => match us, hl with | [_, _], _ => rfl) (fun cdv A outer s H vs Q E hr h => ?_)
  obtain ⟨u, L, xs, rfl, hU, hL, hne, h1, h2, q⟩ := h
  refine ⟨_, (pss_one (ps_ret (pe_ix (ixL (K := K) rfl) (pv 1) (pe_cal c_law_draw (hr.mono (by decide)) (pa_cons (pv 0) (pa_cons (pe_callB (lenK (K := K) rfl) (by rfl) T.z_len (by decide +kernel) (pa_cons (pv 1) pa_nil)) pa_nil))) (fun _ _ => rfl)))), ?_⟩
  refine ⟨_, rfl, _, rfl, _, rfl, L, xs, rfl, .inl (SqL.of hL), u, xs.length, rfl, hU, h1, h2, fun r H' hr sx hU' => ?_⟩
  exact ⟨L, xs, _, _, rfl, rfl, SqL.of (sx _ _ hL hne), atV (List.getElem?_eq_getElem hr), q _ H' (List.getElem_mem hr) sx hU'⟩
theorem erase_perm {α : Type} : ∀ (l : List α) (k : Nat) (h : k < l.length), l.Perm (l[k] :: l.eraseIdx k)
  | a :: l, 0, _ => List.Perm.refl _
  | a :: l, k + 1, h => by
    have ih := erase_perm l k (by simpa using h)
    show (a :: l).Perm (l[k]'(by simpa using h) :: a :: l.eraseIdx k)
    exact (List.Perm.cons a ih).trans (List.Perm.swap _ _ _)
theorem SameX.of2 {u : Addr} {H H' : Hp} (s : Same H H') : SameX u H H' := fun b v e _ => s b v e
def spMixed : Sp := fun vs H Q _ => ∃ (u : Addr) (n : Nat), vs = [.ref u, vn n] ∧ Urn H u ∧ n ≤ 60 ∧ ∀ p H' (l : List Nat), l.Perm (List.range n) → SameX u H H' → Urn H' u → TupN H' p l → Q (.ref p) H'
theorem map_eraseIdx {α β : Type} (f : α → β) : ∀ (l : List α) (k : Nat), (l.map f).eraseIdx k = (l.eraseIdx k).map f
  | [], _ => rfl
  | _ :: _, 0 => rfl
  | a :: l, k + 1 => by
    show f a :: (l.map f).eraseIdx k = f a :: (l.eraseIdx k).map f
    rw [map_eraseIdx f l k]
theorem sc_law_mixed : FnScope ["_law_urn_here", "_law_order_here", "_law_left", "_law_found", "_law_turn"] ["_law_urn_here", "_law_order_here"] (defScope (top 65)) := ⟨rfl, rfl, rfl, by decide +kernel, rfl, by decide +kernel, by decide +kernel⟩
theorem ok_law_mixed (T : Txt K mg) (c_law_draw : Cal P w K mg base 2 "_law_draw" spDraw) : Cal P w K mg base (3) "_law_mixed" (spMixed) := by
  obtain ⟨fd, F⟩ := T.f_law_mixed
  refine cal_of T.g_law_mixed F sc_law_mixed (fun vs H Q E h => by first | (obtain ⟨_, rfl, _⟩ := h; rfl) | (obtain ⟨_, _, rfl, _⟩ := h; rfl) | (obtain ⟨_, _, _, rfl, _⟩ := h; rfl) | (obtain ⟨_, _, _, _, rfl, _⟩ := h; rfl) | (obtain ⟨_, _, _, _, _, rfl, _⟩ := h; rfl) | (obtain ⟨_, _, _, _, _, _, rfl, _⟩ := h; rfl) | (obtain ⟨_, _, _, _, _, _, _, rfl, _⟩ := h; rfl) | (obtain ⟨_, _, _, _, _, _, _, _, rfl, _⟩ := h; rfl)) (fun _ _ _ _ _ _ us hl => match us, hl with | [_, _], _ => rfl) (fun cdv A outer s H vs Q E hr h => ?_)
  obtain ⟨u, n, rfl, hU, hn, q⟩ := h
  have hz : sizeLine = 16777216 := sizeLine_eq
  refine ⟨_, (pss_cons (ps_par (i := 2) (j := 3) rfl sc_law_mixed.nd rfl rfl (by decide) rfl rfl (pa_cons (pe_listRg rfl (by rfl) T.z_list (prg_1 (by rfl) T.z_range (pv 1))) (pa_cons (pe_lst pa_nil) pa_nil)) (by rfl))
      (pss_cons (ps_for PassesOwn.never rfl (pi_range1 (by rfl) T.z_range (pa_cons (pv 1) pa_nil)) (pg_name (i := 4) sc_law_mixed.nd rfl (Or.inl rfl)) (pss_one (ps_expr (pe_bm PySem.F.plainAttrs_list PySem.F.slot_list_append PySem.F.type_list_append mt_append (pv 3) (pa_cons (pe_bm PySem.F.plainAttrs_list PySem.F.slot_list_pop PySem.F.type_list_pop mt_popAt (pv 2) (pa_cons (pe_cal c_law_draw (hr.mono (by decide)) (pa_cons (pv 0) (pa_cons (pe_callB (lenK (K := K) rfl) (by rfl) T.z_len (by decide +kernel) (pa_cons (pv 2) pa_nil)) pa_nil))) pa_nil)) pa_nil)))))
      (pss_one (ps_ret (pe_callTy (tupOfK (K := K) rfl) (by rfl) T.z_tuple (by decide +kernel) (pa_cons (pv 3) pa_nil)))))), ?_⟩
  refine ⟨_, rfl, _, rfl, RgOk.n (by omega), fun A hA => ⟨Nat.zero_le _, fun F hF => ⟨_, _, rfl, ?_⟩⟩⟩
  rw [rgN] at hF ⊢
  have nA : A ≠ F := fun z => by rw [← z, upd_same] at hF; cases hF
  have hF0 : H F = none := by rw [upd_ne nA.symm] at hF; exact hF
  have s1 : Same H (upd (upd H A (.lst ((List.range n).map vn))) F (.lst [])) := fun b v e => by rw [upd_ne (ne_of_none e hF0), upd_ne (ne_of_none e hA)]; exact e
  have hA1 : upd (upd H A (.lst ((List.range n).map vn))) F (.lst []) A = some (.lst ((List.range n).map vn)) := by rw [upd_ne nA]; exact upd_same
  have hF1 : upd (upd H A (.lst ((List.range n).map vn))) F (.lst []) F = some (.lst []) := upd_same
  have hU1 := hU.mono s1
  have nAu : A ≠ u := fun z => by obtain ⟨_, _, _, e⟩ := hU; rw [← z, hA] at e; cases e
  have nFu : F ≠ u := fun z => by obtain ⟨_, _, _, e⟩ := hU; rw [← z, hF0] at e; cases e
  generalize upd (upd H A (.lst ((List.range n).map vn))) F (.lst []) = H1 at s1 hA1 hF1 hU1 ⊢
  refine ⟨_, rfl, _, rfl, by omega, by omega, ?_⟩
  refine for_it walk_range (fun i σ H' => (∃ x, σ = [some (.ref u), some (vn n), some (.ref A), some (.ref F), x]) ∧ SameX u H H' ∧ Urn H' u ∧ ∃ l f : List Nat, LstN H' A l ∧ LstN H' F f ∧ (f ++ l).Perm (List.range n) ∧ f.length = i) ⟨⟨_, rfl⟩, Same.x s1 u, hU1, List.range n, [], hA1, hF1, List.Perm.refl _, rfl⟩ (fun _ _ _ _ _ => trivial) (fun i v σ H2 H3 hi p y => ?_) (fun σ H' p => ?_)
  · obtain ⟨⟨_, rfl⟩, sx, hU2, l, f, hl, hf, hp, lf⟩ := p
    obtain ⟨rfl, rfl⟩ := y
    rw [Int.toNat_natCast] at hi
    have ll : f.length + l.length = n := by have := hp.length_eq; rwa [List.length_append, List.length_range] at this
    refine ⟨_, rfl, tyL hf, _, rfl, tyL hl, _, rfl, _, rfl, A, _, rfl, .inl (SqL.of hl), u, l.length, by rw [List.length_map]; rfl, hU2, by omega, by omega, fun r H4 hr sx4 hU4 => ?_⟩
    have hl4 := sx4 _ _ hl nAu
    have hf4 := sx4 _ _ hf nFu
    have ek : seqIndex? (r : Int) (l.map vn).length = some r := by rw [seqIndex_of (by omega) (by rw [List.length_map]; omega), Int.toNat_natCast]
    have ey : (l.map vn)[r]? = some (vn l[r]) := by rw [List.getElem?_map, List.getElem?_eq_getElem hr]; rfl
    refine ⟨A, _, _, r, vn l[r], rfl, rfl, hl4, by omega, by omega, ek, ey, ?_⟩
    refine ⟨F, _, _, rfl, rfl, by rw [upd_ne nA.symm]; exact hf4, by rw [List.length_map]; omega, ⟨_, rfl⟩, fun b v e n => ?_, ?_, l.eraseIdx r, f ++ [l[r]], ?_, ?_, ?_, by rw [List.length_append, lf]; rfl⟩
    · have e4 := sx4 _ _ (sx _ _ e n) n
      rw [upd_ne (fun z => by rw [z, hF0] at e; cases e), upd_ne (fun z => by rw [z, hA] at e; cases e)]
      exact e4
    · obtain ⟨a, b, c, e⟩ := hU4
      exact ⟨a, b, c, by rw [upd_ne nFu.symm, upd_ne nAu.symm]; exact e⟩
    · show upd _ _ _ _ = _
      rw [upd_ne nA, upd_same, map_eraseIdx]
    · show upd _ _ _ _ = _
      rw [upd_same, List.map_append]
      rfl
    · refine List.Perm.trans ?_ hp
      rw [List.append_assoc]
      exact List.Perm.append_left f (erase_perm l r hr).symm
  · obtain ⟨⟨_, rfl⟩, sx, hU2, l, f, hl, hf, hp, lf⟩ := p
    rw [Int.toNat_natCast] at lf
    have ll : f.length + l.length = n := by have := hp.length_eq; rwa [List.length_append, List.length_range] at this
    have l0 : l = [] := List.eq_nil_of_length_eq_zero (by omega)
    rw [l0, List.append_nil] at hp
    refine ⟨_, rfl, F, _, rfl, .inl ⟨SqL.of hf, fun P hP => q P _ f hp (fun b v e n => ?_) ?_ upd_same⟩⟩
    · rw [upd_ne (ne_of_none (sx _ _ e n) hP)]
      exact sx _ _ e n
    · obtain ⟨a, b, c, e⟩ := hU2
      exact ⟨a, b, c, by rw [upd_ne (ne_of_none e hP)]; exact e⟩
/-- a list of lists of numbers, all new since H0 -/
def LstR (H0 H : Hp) (p : Addr) (rs : Rows) : Prop := ∃ ps : List Addr, H p = some (.lst (ps.map V.ref)) ∧ Each LstN H ps rs ∧ H0 p = none ∧ ∀ q ∈ ps, H0 q = none
def ringL (n : Nat) : Rows := (List.range n).map fun r => (List.range n).map fun c => (r + c) % n
def spRing : Sp := fun vs H Q _ => ∃ n : Nat, vs = [vn n] ∧ 1 ≤ n ∧ n ≤ 12 ∧ ∀ p H', Same H H' → LstR H H' p (ringL n) → Q (.ref p) H'
theorem sc_law_ring : FnScope ["_law_order_here", "_law_column", "_law_row"] ["_law_order_here"] (defScope (top 66)) := ⟨rfl, rfl, rfl, by decide +kernel, rfl, by decide +kernel, by decide +kernel⟩
theorem ok_law_ring (T : Txt K mg)  : Cal P w K mg base (2) "_law_ring" (spRing) := by
  obtain ⟨fd, F⟩ := T.f_law_ring
  refine cal_of T.g_law_ring F sc_law_ring (fun vs H Q E h => by first | (obtain ⟨_, rfl, _⟩ := h; rfl) | (obtain ⟨_, _, rfl, _⟩ := h; rfl) | (obtain ⟨_, _, _, rfl, _⟩ := h; rfl) | (obtain ⟨_, _, _, _, rfl, _⟩ := h; rfl) | (obtain ⟨_, _, _, _, _, rfl, _⟩ := h; rfl) | (obtain ⟨_, _, _, _, _, _, rfl, _⟩ := h; rfl) | (obtain ⟨_, _, _, _, _, _, _, rfl, _⟩ := h; rfl) | (obtain ⟨_, _, _, _, _, _, _, _, rfl, _⟩ := h; rfl)) (fun _ _ _ _ _ _ us hl => match us, hl with | [_], _ => rfl) (fun cdv A outer s H vs Q E hr h => ?_)
  obtain ⟨n, rfl, h1, h2, q⟩ := h
  refine ⟨_, (pss_one (ps_ret (pe_lc (own := [("_law_row", 2)]) rfl sc_law_ring.nd (pi_range1 (by rfl) T.z_range (pa_cons (pv 0) pa_nil)) (blkOk_by (own := [("_law_row", 2)]) (N := ["_law_order_here", "_law_column", "_law_row"]) (sc := defScope (top 66)) (by first | decide +kernel | kernel_rfl | rfl)) (fun _ _ _ _ _ => (pg_name (i := 2) sc_law_ring.nd rfl (Or.inr rfl) (Or.inl rfl))) (fun _ _ _ _ _ => pts_nil) (fun _ _ _ _ _ => (pe_lc (own := [("_law_column", 1)]) rfl sc_law_ring.nd (pi_range1 (by rfl) T.z_range (pa_cons (pv 0) pa_nil)) (blkOk_by (own := [("_law_column", 1)]) (N := ["_law_order_here", "_law_column", "_law_row"]) (by first | decide +kernel | kernel_rfl | rfl)) (fun _ _ _ _ _ => (pg_name (i := 1) sc_law_ring.nd rfl (Or.inl rfl))) (fun _ _ _ _ _ => pts_nil) (fun _ _ _ _ _ => (pe_op op_mod (pe_op op_add (pv 2) (pv 1)) (pv 0)))))))), ?_⟩
  refine ⟨_, rfl, _, rfl, by omega, by omega, fun D hD => ?_⟩
  refine lc_gen walk_range (by omega) hD (fun _ _ => trivial) (fun H' k y => ∃ q, y = .ref q ∧ q ≠ D ∧ H q = none ∧ LstN H' q ((List.range n).map fun c => (k + c) % n)) (fun H0 H' k y sx ⟨p, e, n, z, t⟩ => ⟨p, e, n, z, sx _ _ t n⟩) (fun k v H0 H' acc Kf hk sm hacc hy hK => ?_) (fun ys H' sm hy ly hr' => ?_)
  · obtain ⟨rfl, hv⟩ := hy
    obtain rfl : v = vn k := hv.trans (by show V.int (0 + (k : Int)) = _; rw [Int.zero_add])
    refine ⟨rfl, _, rfl, _, rfl, by omega, by omega, fun D2 hD2 => ?_⟩
    refine lc_gen walk_range (by omega) hD2 (fun _ _ => trivial) (fun _ c y => y = vn ((k + c) % n)) (fun _ _ _ _ _ h => h) (fun c v H2 H3 acc2 Kf2 hc sm2 hacc2 hy2 hK2 => ?_) (fun ys2 H2 sm2 hy2 ly2 hr2 => ?_)
    · obtain ⟨rfl, hv⟩ := hy2
      obtain rfl : v = vn c := hv.trans (by show V.int (0 + (c : Int)) = _; rw [Int.zero_add])
      refine ⟨rfl, _, rfl, _, rfl, _, _, rfl, rfl, _, rfl, _, _, rfl, rfl, by omega, hK2 _ _ sRefl ?_⟩
      show V.int (((k : Int) + (c : Int)) % (n : Int)) = V.int (((k + c) % n : Nat) : Int)
      rw [Int.natCast_emod, Int.natCast_add]
    · have e2 := ints_of ys2 (fun c => (k + c) % n) hr2
      rw [ly2, Int.toNat_natCast] at e2
      refine hK _ _ sm2 ⟨D2, rfl, fun z => ?_, sm.free hD2, by show H2 D2 = _; rw [hy2, ← e2]⟩
      rw [z, hacc] at hD2
      cases hD2
  · rw [Int.toNat_natCast] at ly
    obtain ⟨qs, e, hQ⟩ := each_of (RR := fun H' q l => LstN H' q l ∧ H q = none) ys (fun k => (List.range n).map fun c => (k + c) % n) fun k y e => let ⟨p, h1, _, h3, h2⟩ := hr' k y e; ⟨p, h1, h2, h3⟩
    rw [ly] at hQ
    refine q D H' sm ⟨qs, by rw [hy, e], hQ.imp (fun _ _ _ z => z.1), hD, fun x hx => ?_⟩
    obtain ⟨i, hi⟩ := List.mem_iff_getElem?.mp hx
    obtain ⟨_, _, z⟩ := hQ.get hi
    exact z.2
end
end K61

set_option Elab.async false
set_option maxRecDepth 100000
set_option maxHeartbeats 4000000
namespace K61
open PySem PySem.Spec PyProof.Rows L2
section
variable {P : Program} {w : World} {K : PySem.W.Frag} {mg : Str → Option Value} {base : Heap}
/-- one row of a product -/
def pairRow (n : Nat) (l r : List Nat) : List Nat := l.flatMap fun m => r.map fun t => m * n + t
def pairsL (A B : Rows) : Rows := A.flatMap fun l => B.map fun r => pairRow B.length l r
theorem pairsL_snoc (A B : Rows) (l : List Nat) : pairsL (A ++ [l]) B = pairsL A B ++ B.map fun r => pairRow B.length l r := by
  unfold pairsL
  rw [List.flatMap_append]
  simp
theorem pairsL_len (B : Rows) : ∀ A : Rows, (pairsL A B).length = A.length * B.length
  | [] => by simp [pairsL]
  | l :: A => by
    show ((B.map fun r => pairRow B.length l r) ++ pairsL A B).length = _
    rw [List.length_append, List.length_map, pairsL_len B A, List.length_cons, Nat.add_mul, Nat.one_mul, Nat.add_comm]
/-- a list of lists of numbers -/
def LstRR (H : Hp) (p : Addr) (rs : Rows) : Prop := ∃ ps : List Addr, H p = some (.lst (ps.map V.ref)) ∧ Each LstN H ps rs
theorem eachL {H H' : Hp} {ps : List Addr} {rs : Rows} (h : Each LstN H ps rs) (s : Same H H') : Each LstN H' ps rs := h.imp fun a _ l t => s _ _ t
theorem eachU {H : Hp} {ps : List Addr} {rs : Rows} {a : Addr} {o : HO} (h : Each LstN H ps rs) (n : ∀ q ∈ ps, q ≠ a) : Each LstN (upd H a o) ps rs := h.imp fun b hb l t => by show upd _ _ _ _ = _; rw [upd_ne (n b hb)]; exact t
def spPairs : Sp := fun vs H Q _ => ∃ (a b : Addr) (A B : Rows), vs = [.ref a, .ref b] ∧ LstRR H a A ∧ LstRR H b B ∧ A.length ≤ 12 ∧ B.length ≤ 12 ∧ (∀ l ∈ A, l.length ≤ 12) ∧ (∀ l ∈ B, l.length ≤ 12) ∧ ∀ p H', Same H H' → LstR H H' p (pairsL A B) → Q (.ref p) H'
theorem sc_law_pairs : FnScope ["_law_one", "_law_other", "_law_size", "_law_found", "_law_left", "_law_right_here", "_law_row", "_law_mine", "_law_theirs"] ["_law_one", "_law_other"] (defScope (top 67)) := ⟨rfl, rfl, rfl, by decide +kernel, rfl, by decide +kernel, by decide +kernel⟩
theorem ok_law_pairs (T : Txt K mg)  : Cal P w K mg base (2) "_law_pairs" (spPairs) := by
  obtain ⟨fd, F⟩ := T.f_law_pairs
  refine cal_of T.g_law_pairs F sc_law_pairs (fun vs H Q E h => by first | (obtain ⟨_, rfl, _⟩ := h; rfl) | (obtain ⟨_, _, rfl, _⟩ := h; rfl) | (obtain ⟨_, _, _, rfl, _⟩ := h; rfl) | (obtain ⟨_, _, _, _, rfl, _⟩ := h; rfl) | (obtain ⟨_, _, _, _, _, rfl, _⟩ := h; rfl) | (obtain ⟨_, _, _, _, _, _, rfl, _⟩ := h; rfl) | (obtain ⟨_, _, _, _, _, _, _, rfl, _⟩ := h; rfl) | (obtain ⟨_, _, _, _, _, _, _, _, rfl, _⟩ := h; rfl)) (fun _ _ _ _ _ _ us hl => match us, hl with | [_, _], _ => rfl) (fun cdv A outer s H vs Q E hr h => ?_)
  obtain ⟨a, b, A, B, rfl, ⟨pa, ha, hA⟩, ⟨pb, hb, hB⟩, lA, lB, rA, rB, q⟩ := h
  have hz : sizeLine = 16777216 := sizeLine_eq
  have la := hA.length
  have lb := hB.length
  refine ⟨_, (pss_cons (ps_asg (pe_tup (pa_cons (pe_callB (lenK (K := K) rfl) (by rfl) T.z_len (by decide +kernel) (pa_cons (pv 1) pa_nil)) (pa_cons (pe_lst pa_nil) pa_nil))) (pgTup (K := K) (n := 2) rfl rfl (pgs_cons (pg_name (i := 2) sc_law_pairs.nd rfl (Or.inr rfl)) (pgs_cons (pg_name (i := 3) sc_law_pairs.nd rfl (Or.inl rfl)) pgs_nil))))
      (pss_cons (ps_for PassesOwn.never rfl (piL (K := K) rfl (pv 0)) (pg_name (i := 4) sc_law_pairs.nd rfl (Or.inl rfl)) (pss_one (ps_for PassesOwn.never rfl (piL (K := K) rfl (pv 1)) (pg_name (i := 5) sc_law_pairs.nd rfl (Or.inl rfl)) (pss_cons (ps_set (i := 6) sc_law_pairs.nd rfl (Or.inl rfl) (pe_lst pa_nil))
      (pss_cons (ps_for PassesOwn.never rfl (piL (K := K) rfl (pv 4)) (pg_name (i := 7) sc_law_pairs.nd rfl (Or.inr rfl)) (pss_one (ps_expr (pe_bm PySem.F.plainAttrs_list PySem.F.slot_list_extend PySem.F.type_list_extend mt_extend (pv 6) (pa_cons (pe_lc (own := [("_law_theirs", 8)]) rfl sc_law_pairs.nd (piL (K := K) rfl (pv 5)) (blkOk_by (own := [("_law_theirs", 8)]) (N := ["_law_one", "_law_other", "_law_size", "_law_found", "_law_left", "_law_right_here", "_law_row", "_law_mine", "_law_theirs"]) (sc := defScope (top 67)) (by first | decide +kernel | kernel_rfl | rfl)) (fun _ _ _ _ _ => (pg_name (i := 8) sc_law_pairs.nd rfl (Or.inl rfl))) (fun _ _ _ _ _ => pts_nil) (fun _ _ _ _ _ => (pe_op op_add (pe_op op_mul (pv 7) (pv 2)) (pv 8)))) pa_nil)))))
      (pss_one (ps_expr (pe_bm PySem.F.plainAttrs_list PySem.F.slot_list_append PySem.F.type_list_append mt_append (pv 3) (pa_cons (pv 6) pa_nil)))))))))
      (pss_one (ps_ret (pv 3))))), ?_⟩
  refine ⟨_, rfl, b, _, rfl, .inl (SqL.of hb), Nat.zero_le _, fun F hF => ⟨(by decide : 2 ≤ sizeLine), fun Tp hTp => ?_⟩⟩
  have nFT : F ≠ Tp := fun z => by rw [← z, upd_same] at hTp; cases hTp
  have hT0 : H Tp = none := by rw [upd_ne nFT.symm] at hTp; exact hTp
  refine ⟨Tp, _, rfl, SqT.of upd_same, rfl, _, _, rfl, _, _, rfl, rfl, ?_⟩
  rw [List.length_map, lb]
  have s1 : ∀ o, Same H (upd (upd H F (.lst [])) Tp o) := fun o c v e => by rw [upd_ne (ne_of_none e hT0), upd_ne (ne_of_none e hF)]; exact e
  have hF1 : ∀ o, upd (upd H F (.lst [])) Tp o F = some (.lst []) := fun o => by rw [upd_ne nFT]; exact upd_same
  refine ⟨_, rfl, a, rfl, ⟨_, SqL.of (s1 _ _ _ ha)⟩, ?_⟩
  refine for_it walk_list (fun i σ H' => (∃ x y z u v, σ = [some (.ref a), some (.ref b), some (vn B.length), some (.ref F), x, y, z, u, v]) ∧ Same H H' ∧ ∃ qs : List Addr, H' F = some (.lst (qs.map V.ref)) ∧ Each LstN H' qs (pairsL (A.take i) B) ∧ ∀ q ∈ qs, H q = none ∧ q ≠ F) ⟨⟨_, _, _, _, _, rfl⟩, s1 _, [], hF1 _, .nil, by simp⟩ (fun i σ H' _ p => SqL.of (p.2.1 _ _ ha)) (fun i v σ H2 H3 hi p y => ?_) (fun σ H' p => ?_)
  · obtain ⟨⟨_, _, _, _, _, rfl⟩, sm, qs, hq, hQ, hn⟩ := p
    obtain ⟨rfl, hv⟩ := y
    obtain ⟨pl, l, rfl, hl, tl⟩ := hA.refs hv
    have ml := rA l (List.mem_of_getElem? hl)
    refine ⟨_, rfl, b, rfl, ⟨_, SqL.of (sm _ _ hb)⟩, ?_⟩
    refine for_it walk_list (fun j σ H' => (∃ y z u v, σ = [some (.ref a), some (.ref b), some (vn B.length), some (.ref F), some (.ref pl), y, z, u, v]) ∧ Same H H' ∧ ∃ qs : List Addr, H' F = some (.lst (qs.map V.ref)) ∧ Each LstN H' qs (pairsL (A.take i) B ++ (B.take j).map fun r => pairRow B.length l r) ∧ ∀ q ∈ qs, H q = none ∧ q ≠ F) ⟨⟨_, _, _, _, rfl⟩, sm, qs, hq, by simpa using hQ, hn⟩ (fun j σ H' _ p => SqL.of (p.2.1 _ _ hb)) (fun j v σ H4 H5 hj p y => ?_) (fun σ H' p => ?_)
    · obtain ⟨⟨_, _, _, _, rfl⟩, sm, qs, hq, hQ, hn⟩ := p
      obtain ⟨rfl, hv2⟩ := y
      obtain ⟨pr, r, rfl, hr2, tr⟩ := hB.refs hv2
      have mr := rB r (List.mem_of_getElem? hr2)
      refine ⟨Nat.zero_le _, fun R hR => ?_⟩
      have s5 := same_upd (o := .lst []) hR
      have hR5 : upd H5 R (.lst []) R = some (.lst []) := upd_same
      have nRF : R ≠ F := fun z => by rw [z, hq] at hR; cases hR
      have hR0 : H R = none := sm.free hR
      have nqR : ∀ q ∈ qs, q ≠ R := fun q hqm z => by
        obtain ⟨k, hk⟩ := List.mem_iff_getElem?.mp hqm
        obtain ⟨x, _, tx⟩ := hQ.get hk
        unfold LstN at tx
        rw [z, hR] at tx
        cases tx
      have hq5 := s5 _ _ hq
      have hQ5 := eachL hQ s5
      have sm5 : Same H (upd H5 R (.lst [])) := fun c v e => s5 _ _ (sm _ _ e)
      generalize upd H5 R (.lst []) = H6 at s5 hR5 hq5 hQ5 sm5 ⊢
      refine ⟨_, rfl, pl, rfl, ⟨_, SqL.of (sm5 _ _ tl)⟩, ?_⟩
      have nR : ∀ {c : Addr} {v : HO}, H c = some v → c ≠ R := fun e z => by rw [z, hR0] at e; cases e
      refine for_it walk_list (fun k σ H' => (∃ u v, σ = [some (.ref a), some (.ref b), some (vn B.length), some (.ref F), some (.ref pl), some (.ref pr), some (.ref R), u, v]) ∧ SameX R H6 H' ∧ LstN H' R (pairRow B.length (l.take k) r)) ⟨⟨_, _, rfl⟩, SameX.refl, hR5⟩ (fun k σ H' _ p => SqL.of (p.2.1 _ _ (sm5 _ _ tl) (nR tl))) (fun k v σ H7 H8 hk p y => ?_) (fun σ H' p => ?_)
      · obtain ⟨⟨_, _, rfl⟩, sx, hRk⟩ := p
        obtain ⟨rfl, hv3⟩ := y
        rw [List.length_map] at hk
        rw [List.getElem?_map, List.getElem?_eq_getElem hk] at hv3
        cases hv3
        have tr8 := sx _ _ (sm5 _ _ tr) (nR tr)
        refine ⟨_, rfl, tyL hRk, _, rfl, pr, rfl, ⟨_, SqL.of tr8⟩, fun D hD => ?_⟩
        refine lc_gen walk_list (by rw [List.length_map]; omega) hD (fun H' s' => SqL.of (s' _ _ tr8)) (fun _ c y => y = vn (l[k] * B.length + r.getD c 0)) (fun _ _ _ _ _ h => h) (fun c v H9 H10 acc Kf hc s' hacc hy hKf => ?_) (fun ys H9 s' hy ly hr' => ?_)
        · obtain ⟨rfl, hv4⟩ := hy
          rw [List.length_map] at hc
          rw [List.getElem?_map, List.getElem?_eq_getElem hc] at hv4
          cases hv4
          refine ⟨rfl, _, rfl, _, rfl, _, _, rfl, rfl, .inr ⟨by omega, by omega⟩, _, rfl, _, _, rfl, rfl, hKf _ _ sRefl ?_⟩
          show V.int (((l[k] : Nat) : Int) * ((B.length : Nat) : Int) + ((r[c] : Nat) : Int)) = V.int ((l[k] * B.length + r.getD c 0 : Nat) : Int)
          rw [getD_of (List.getElem?_eq_getElem hc), Int.natCast_add, Int.natCast_mul]
        · have e2 : ys = (r.map fun t => l[k] * B.length + t).map vn := by
            rw [ints_of ys (fun c => l[k] * B.length + r.getD c 0) hr', ly, List.length_map, map_range_get r (fun t => l[k] * B.length + t)]
            intro j x e
            rw [getD_of e]
          have nDR : D ≠ R := fun z => by rw [z, hRk] at hD; cases hD
          have hpl : (pairRow B.length (l.take k) r).length ≤ 144 := by
            unfold pairRow
            rw [List.length_flatMap]
            simp only [List.length_map]
            have : ((l.take k).map fun _ => r.length).sum ≤ 12 * 12 := by
              rw [List.map_const', List.sum_replicate_nat]
              have : (l.take k).length ≤ 12 := by rw [List.length_take]; omega
              exact Nat.mul_le_mul this mr
            omega
          refine ⟨R, D, _, _, rfl, rfl, s' _ _ hRk, hy, ?_, ⟨_, _, rfl⟩, (sx.trans (Same.x s' R)).upd, ?_⟩
          · rw [e2, List.length_map, List.length_map, List.length_map]
            omega
          · show upd _ _ _ _ = _
            rw [upd_same, e2, List.take_succ, List.getElem?_eq_getElem hk]
            unfold pairRow
            rw [List.flatMap_append, List.map_append]
            simp
      · obtain ⟨⟨_, _, rfl⟩, sx, hRk⟩ := p
        rw [List.length_map, List.take_length] at hRk
        have hq' := sx _ _ hq5 nRF.symm
        have hQ' : Each LstN H' qs (pairsL (A.take i) B ++ (B.take j).map fun r => pairRow B.length l r) := hQ5.imp fun c hc x t => sx _ _ t (nqR c hc)
        have hlq := hQ'.length
        have hsz : qs.length ≤ 1000 := by
          rw [hlq, List.length_append, pairsL_len, List.length_map]
          have h1 : (A.take i).length ≤ 12 := by rw [List.length_take]; omega
          have h2 : (B.take j).length ≤ 12 := by rw [List.length_take]; omega
          have h3 : (A.take i).length * B.length ≤ 12 * 12 := Nat.mul_le_mul h1 lB
          omega
        refine ⟨_, rfl, tyL hq', _, rfl, F, _, _, rfl, rfl, hq', by rw [List.length_map]; omega, ⟨_, _, _, _, rfl⟩, Same.mut (fun c v e => sx _ _ (sm5 _ _ e) (nR e)) hF, qs ++ [R], by rw [upd_same, List.map_append]; rfl, ?_, fun q hqm => ?_⟩
        · rw [List.take_succ, hr2, List.map_append, ← List.append_assoc]
          refine Each.append (eachU hQ' fun c hc => (hn c hc).2) (.cons ?_ .nil)
          show upd _ _ _ _ = _
          rw [upd_ne nRF]
          exact hRk
        · rcases List.mem_append.mp hqm with z | z
          · exact hn q z
          · rw [List.mem_singleton.mp z]; exact ⟨hR0, nRF⟩
    · obtain ⟨⟨_, _, _, _, rfl⟩, sm, qs, hq, hQ, hn⟩ := p
      rw [List.length_map, lb, List.take_length] at hQ
      refine ⟨⟨_, _, _, _, _, rfl⟩, sm, qs, hq, ?_, hn⟩
      rw [List.take_succ, hl]
      show Each LstN H' qs (pairsL (A.take i ++ [l]) B)
      rw [pairsL_snoc]
      exact hQ
  · obtain ⟨⟨_, _, _, _, _, rfl⟩, sm, qs, hq, hQ, hn⟩ := p
    rw [List.length_map, la, List.take_length] at hQ
    exact ⟨_, rfl, q F H' sm ⟨qs, hq, hQ, hF, fun x hx => (hn x hx).1⟩⟩
/-- the sign of the name nm and the other ot among the turns of m -/
def turnC (m nm ot : Nat) : Nat := ((if nm / m = 1 then ((nm % m : Nat) : Int) - ((ot % m : Nat) : Int) else ((nm % m : Nat) : Int) + ((ot % m : Nat) : Int)) % (m : Int)).toNat + m * ((nm / m + ot / m) % 2)
def turnsL (m : Nat) : Rows := (List.range (2 * m)).map fun nm => (List.range (2 * m)).map fun ot => turnC m nm ot
def spTurns : Sp := fun vs H Q _ => ∃ m : Nat, vs = [vn m] ∧ 1 ≤ m ∧ m ≤ 12 ∧ ∀ p H', Same H H' → LstR H H' p (turnsL m) → Q (.ref p) H'
theorem sc_law_turns : FnScope ["_law_many", "_law_found", "_law_name", "_law_at", "_law_is_mirrored", "_law_row", "_law_other", "_law_far"] ["_law_many"] (defScope (top 68)) := ⟨rfl, rfl, rfl, by decide +kernel, rfl, by decide +kernel, by decide +kernel⟩
theorem ok_law_turns (T : Txt K mg)  : Cal P w K mg base (2) "_law_turns" (spTurns) := by
  obtain ⟨fd, F⟩ := T.f_law_turns
  refine cal_of T.g_law_turns F sc_law_turns (fun vs H Q E h => by first | (obtain ⟨_, rfl, _⟩ := h; rfl) | (obtain ⟨_, _, rfl, _⟩ := h; rfl) | (obtain ⟨_, _, _, rfl, _⟩ := h; rfl) | (obtain ⟨_, _, _, _, rfl, _⟩ := h; rfl) | (obtain ⟨_, _, _, _, _, rfl, _⟩ := h; rfl) | (obtain ⟨_, _, _, _, _, _, rfl, _⟩ := h; rfl) | (obtain ⟨_, _, _, _, _, _, _, rfl, _⟩ := h; rfl) | (obtain ⟨_, _, _, _, _, _, _, _, rfl, _⟩ := h; rfl)) (fun _ _ _ _ _ _ us hl => match us, hl with | [_], _ => rfl) (fun cdv A outer s H vs Q E hr h => ?_)
  obtain ⟨m, rfl, h1, h2, q⟩ := h
  have hz : sizeLine = 16777216 := sizeLine_eq
  have e2m : ((2 : Int) * (m : Int)).toNat = 2 * m := by omega
  refine ⟨_, (pss_cons (ps_set (i := 1) sc_law_turns.nd rfl (Or.inl rfl) (pe_lst pa_nil))
      (pss_cons (ps_for PassesOwn.never rfl (pi_range1 (by rfl) T.z_range (pa_cons (pe_op op_mul (pe_int) (pv 0)) pa_nil)) (pg_name (i := 2) sc_law_turns.nd rfl (Or.inl rfl)) (pss_cons (ps_par (i := 3) (j := 4) rfl sc_law_turns.nd rfl rfl (by decide) rfl rfl (pa_cons (pe_op op_mod (pv 2) (pv 0)) (pa_cons (pe_op op_fdiv (pv 2) (pv 0)) pa_nil)) (by rfl))
      (pss_cons (ps_set (i := 5) sc_law_turns.nd rfl (Or.inl rfl) (pe_lst pa_nil))
      (pss_cons (ps_for PassesOwn.never rfl (pi_range1 (by rfl) T.z_range (pa_cons (pe_op op_mul (pe_int) (pv 0)) pa_nil)) (pg_name (i := 6) sc_law_turns.nd rfl (Or.inl rfl)) (pss_cons (ps_set (i := 7) sc_law_turns.nd rfl (Or.inl rfl) (pe_ifExp (pt_cmpR op_eq (pv 4) (pe_int) (nomark _)) (pe_op op_sub (pv 3) (pe_op op_mod (pv 6) (pv 0))) (pe_op op_add (pv 3) (pe_op op_mod (pv 6) (pv 0)))))
      (pss_one (ps_expr (pe_bm PySem.F.plainAttrs_list PySem.F.slot_list_append PySem.F.type_list_append mt_append (pv 5) (pa_cons (pe_op op_add (pe_op op_mod (pv 7) (pv 0)) (pe_op op_mul (pv 0) (pe_op op_mod (pe_op op_add (pv 4) (pe_op op_fdiv (pv 6) (pv 0))) (pe_int)))) pa_nil))))))
      (pss_one (ps_expr (pe_bm PySem.F.plainAttrs_list PySem.F.slot_list_append PySem.F.type_list_append mt_append (pv 1) (pa_cons (pv 5) pa_nil))))))))
      (pss_one (ps_ret (pv 1))))), ?_⟩
  refine ⟨Nat.zero_le _, fun F hF => ?_⟩
  refine ⟨_, rfl, _, _, rfl, rfl, .inl ⟨by omega, by omega⟩, _, rfl, by omega, by omega, ?_⟩
  rw [e2m]
  refine for_it walk_range (fun i σ H' => (∃ x y z u v w, σ = [some (vn m), some (.ref F), x, y, z, u, v, w]) ∧ Same H H' ∧ ∃ qs : List Addr, H' F = some (.lst (qs.map V.ref)) ∧ Each LstN H' qs ((List.range i).map fun nm => (List.range (2 * m)).map fun ot => turnC m nm ot) ∧ ∀ q ∈ qs, H q = none ∧ q ≠ F) ⟨⟨_, _, _, _, _, _, rfl⟩, same_upd hF, [], upd_same, .nil, by simp⟩ (fun _ _ _ _ _ => trivial) (fun i v σ H2 H3 hi p y => ?_) (fun σ H' p => ?_)
  · obtain ⟨⟨_, _, _, _, _, _, rfl⟩, sm, qs, hq, hQ, hn⟩ := p
    obtain ⟨rfl, hv⟩ := y
    obtain rfl : v = vn i := hv.trans (by show V.int (0 + (i : Int)) = _; rw [Int.zero_add])
    refine ⟨_, rfl, _, rfl, _, _, rfl, rfl, by omega, _, rfl, _, rfl, _, _, rfl, rfl, ⟨by omega, by omega⟩, _, _, rfl, ?_⟩
    have ea : V.int ((i : Int) % (m : Int)) = vn (i % m) := congrArg V.int (Int.natCast_emod _ _).symm
    have eb : V.int ((i : Int) / (m : Int)) = vn (i / m) := congrArg V.int (Int.natCast_ediv _ _).symm
    refine ⟨Nat.zero_le _, fun R hR => ?_⟩
    have s5 := same_upd (o := .lst []) hR
    have hR5 : upd H3 R (.lst []) R = some (.lst []) := upd_same
    have nRF : R ≠ F := fun z => by rw [z, hq] at hR; cases hR
    have hR0 : H R = none := sm.free hR
    have nqR : ∀ q ∈ qs, q ≠ R := fun q hqm z => by
      obtain ⟨k, hk⟩ := List.mem_iff_getElem?.mp hqm
      obtain ⟨x, _, tx⟩ := hQ.get hk
      unfold LstN at tx
      rw [z, hR] at tx
      cases tx
    have hq5 := s5 _ _ hq
    have hQ5 := eachL hQ s5
    have sm5 : Same H (upd H3 R (.lst [])) := fun c v e => s5 _ _ (sm _ _ e)
    generalize upd H3 R (.lst []) = H6 at s5 hR5 hq5 hQ5 sm5 ⊢
    refine ⟨_, rfl, _, _, rfl, rfl, .inl ⟨by omega, by omega⟩, _, rfl, by omega, by omega, ?_⟩
    rw [e2m]
    have nR : ∀ {c : Addr} {v : HO}, H c = some v → c ≠ R := fun e z => by rw [z, hR0] at e; cases e
    refine for_it walk_range (fun k σ H' => (∃ u v, σ = [some (vn m), some (.ref F), some (vn i), some (vn (i % m)), some (vn (i / m)), some (.ref R), u, v]) ∧ SameX R H6 H' ∧ LstN H' R ((List.range k).map fun ot => turnC m i ot)) ⟨⟨_, _, by rw [← ea, ← eb]; rfl⟩, SameX.refl, hR5⟩ (fun _ _ _ _ _ => trivial) (fun k v σ H7 H8 hk p y => ?_) (fun σ H' p => ?_)
    · obtain ⟨⟨_, _, rfl⟩, sx, hRk⟩ := p
      obtain ⟨rfl, hv3⟩ := y
      obtain rfl : v = vn k := hv3.trans (by show V.int (0 + (k : Int)) = _; rw [Int.zero_add])
      refine ⟨_, rfl, rfl, _, rfl, ?_⟩
      by_cases hc : i / m = 1
      · have dec_true : decide (vn (i / m) = V.int 1) = true := decide_eq_true (by rw [hc]; rfl)
        rw [dec_true]
        refine iteT ⟨_, rfl, _, rfl, _, rfl, _, _, rfl, rfl, by omega, _, _, rfl, rfl, ?_⟩
        refine ⟨_, rfl, tyL hRk, _, rfl, _, rfl, _, _, rfl, rfl, by omega, _, rfl, _, rfl, _, rfl, _, rfl, _, _, rfl, rfl, ⟨by omega, by omega⟩, _, _, rfl, rfl, _, _, rfl, rfl, by omega, _, _, rfl, rfl, .inl ⟨by omega, by omega⟩, _, _, rfl, rfl, ?_⟩
        refine ⟨R, _, _, rfl, rfl, hRk, by rw [List.length_map, List.length_map, List.length_range]; omega, ⟨_, _, rfl⟩, sx.upd, ?_⟩
        show upd _ _ _ _ = _
        rw [upd_same, List.range_succ, List.map_append, List.map_append]
        refine congrArg some (congrArg HO.lst (congrArg _ ?_))
        show [V.int (((((i % m : Nat) : Int)) - ((k : Int) % (m : Int))) % (m : Int) + (m : Int) * ((((i / m : Nat) : Int) + (k : Int) / (m : Int)) % 2))] = [V.int ((turnC m i k : Nat) : Int)]
        unfold turnC
        rw [if_pos hc, Int.natCast_add, Int.toNat_of_nonneg (Int.emod_nonneg _ (by omega)), Int.natCast_mul, Int.natCast_emod (i / m + k / m) 2, Int.natCast_add (i / m) (k / m), Int.natCast_ediv k m, Int.natCast_emod k m]
        first | done | rfl
      · have dec_false : decide (vn (i / m) = V.int 1) = false := decide_eq_false fun z => hc (vn_inj (b := 1) z)
        rw [dec_false]
        refine iteF ⟨_, rfl, _, rfl, _, rfl, _, _, rfl, rfl, by omega, _, _, rfl, rfl, ?_⟩
        refine ⟨_, rfl, tyL hRk, _, rfl, _, rfl, _, _, rfl, rfl, by omega, _, rfl, _, rfl, _, rfl, _, rfl, _, _, rfl, rfl, ⟨by omega, by omega⟩, _, _, rfl, rfl, _, _, rfl, rfl, by omega, _, _, rfl, rfl, .inl ⟨by omega, by omega⟩, _, _, rfl, rfl, ?_⟩
        refine ⟨R, _, _, rfl, rfl, hRk, by rw [List.length_map, List.length_map, List.length_range]; omega, ⟨_, _, rfl⟩, sx.upd, ?_⟩
        show upd _ _ _ _ = _
        rw [upd_same, List.range_succ, List.map_append, List.map_append]
        refine congrArg some (congrArg HO.lst (congrArg _ ?_))
        show [V.int (((((i % m : Nat) : Int)) + ((k : Int) % (m : Int))) % (m : Int) + (m : Int) * ((((i / m : Nat) : Int) + (k : Int) / (m : Int)) % 2))] = [V.int ((turnC m i k : Nat) : Int)]
        unfold turnC
        rw [if_neg hc, Int.natCast_add, Int.toNat_of_nonneg (Int.emod_nonneg _ (by omega)), Int.natCast_mul, Int.natCast_emod (i / m + k / m) 2, Int.natCast_add (i / m) (k / m), Int.natCast_ediv k m, Int.natCast_emod k m]
        first | done | rfl
    · obtain ⟨⟨_, _, rfl⟩, sx, hRk⟩ := p
      have hq' := sx _ _ hq5 nRF.symm
      have hQ' : Each LstN H' qs ((List.range i).map fun nm => (List.range (2 * m)).map fun ot => turnC m nm ot) := hQ5.imp fun c hc x t => sx _ _ t (nqR c hc)
      have hlq := hQ'.length
      rw [List.length_map, List.length_range] at hlq
      refine ⟨_, rfl, tyL hq', _, rfl, F, _, _, rfl, rfl, hq', by rw [List.length_map]; omega, ⟨_, _, _, _, _, _, rfl⟩, Same.mut (fun c v e => sx _ _ (sm5 _ _ e) (nR e)) hF, qs ++ [R], by rw [upd_same, List.map_append]; rfl, ?_, fun q hqm => ?_⟩
      · rw [List.range_succ, List.map_append]
        refine Each.append (eachU hQ' fun c hc => (hn c hc).2) (.cons ?_ .nil)
        show upd _ _ _ _ = _
        rw [upd_ne nRF]
        exact hRk
      · rcases List.mem_append.mp hqm with z | z
        · exact hn q z
        · rw [List.mem_singleton.mp z]; exact ⟨hR0, nRF⟩
  · obtain ⟨⟨_, _, _, _, _, _, rfl⟩, sm, qs, hq, hQ, hn⟩ := p
    exact ⟨_, rfl, q F H' sm ⟨qs, hq, hQ, hF, fun x hx => (hn x hx).1⟩⟩
end
end K61

set_option Elab.async false
set_option maxRecDepth 100000
set_option maxHeartbeats 4000000
namespace K61
open PySem PySem.Spec PyProof.Rows L2
section
variable {P : Program} {w : World} {K : PySem.W.Frag} {mg : Str → Option Value} {base : Heap}
/-- the cell x, y -/
def at2 (F : Rows) (x y : Nat) : Nat := (F.getD x []).getD y 0
/-- rs is B with its signs renamed by s -/
structure RenBy (B rs : Rows) (s : List Nat) : Prop where
  perm : s.Perm (List.range B.length)
  zero : s.getD 0 0 = 0
  len : rs.length = B.length
  row : ∀ r ∈ rs, r.length = B.length
  cell : ∀ a, a < B.length → ∀ b, b < B.length → at2 rs (s.getD a 0) (s.getD b 0) = s.getD (at2 B a b) 0
theorem catR {K : PySem.W.Frag} {a b : Addr} {xs ys : List V} {H : Hp} {Q : VK} (ha : H a = some (.tup xs)) (hb : H b = some (.tup ys)) (hx : xs ≠ []) (hz : xs.length + ys.length ≤ sizeLine)
    (h : ∀ p H', Same H H' → H' p = some (.tup (xs ++ ys)) → Q (.ref p) H') : rCatA K (.ref a) (.ref b) H Q :=
  ⟨a, b, xs, ys, rfl, rfl, SqT.of ha, SqT.of hb, hz, fun z => absurd z hx, fun _ z => h a H sRefl (by rw [z, List.append_nil]; exact ha), fun _ _ p hp => h p _ (same_upd hp) upd_same⟩
theorem succ_perm {m : Nat} {l : List Nat} (h : l.Perm (List.range m)) : (0 :: l.map (· + 1)).Perm (List.range (m + 1)) := by
  rw [List.range_succ_eq_map]
  exact List.Perm.cons 0 (h.map _)
theorem Each.set {α : Type} {R : Hp → Addr → α → Prop} {H H' : Hp} {q : Addr} {y : α} : ∀ {ps : List Addr} {xs : List α} {i : Nat}, Each R H ps xs → ps[i]? = some q → ps.Nodup → (∀ a x, a ≠ q → R H a x → R H' a x) → R H' q y → Each R H' ps (xs.set i y)
  | _, _, _, .nil, e, _, _, _ => by simp at e
  | a :: ps, _, 0, .cons r t, e, nd, h, hy => by
    have : a = q := by simpa using e
    subst this
    have := (List.nodup_cons.mp nd).1
    exact .cons hy (Each.imp (fun b hb x => h b x (fun z => this (z ▸ hb))) t)
  | a :: ps, _, i + 1, .cons r t, e, nd, h, hy => by
    have e' : ps[i]? = some q := by simpa using e
    have := (List.nodup_cons.mp nd).1
    exact .cons (h a _ (fun z => this (z ▸ List.mem_of_getElem? e')) r) (Each.set t e' (List.nodup_cons.mp nd).2 h hy)
theorem inj_of_perm {n : Nat} {s : List Nat} (h : s.Perm (List.range n)) {a b : Nat} (ha : a < n) (hb : b < n) (e : s.getD a 0 = s.getD b 0) : a = b := by
  have ls := (perm_lt h).1
  have nd : s.Nodup := h.symm.nodup List.nodup_range
  have ea : s[a]? = some (s[a]'(by omega)) := List.getElem?_eq_getElem _
  have eb : s[b]? = some (s[b]'(by omega)) := List.getElem?_eq_getElem _
  rw [getD_of ea, getD_of eb] at e
  exact (List.getElem?_inj (i := a) (j := b) (by omega) nd).mp (by rw [ea, eb, e])
theorem getD_lt {n : Nat} {s : List Nat} (h : s.Perm (List.range n)) {a : Nat} (ha : a < n) : s.getD a 0 < n := by
  have p := perm_lt h
  rw [List.getD_eq_getElem?_getD, List.getElem?_eq_getElem (by omega)]
  exact p.2 _ (List.getElem_mem _)
theorem at2_set {F : Rows} {x y v : Nat} {r : List Nat} (hr : F[x]? = some r) (x' y' : Nat) (hy : y < r.length) : at2 (F.set x (r.set y v)) x' y' = if x' = x ∧ y' = y then v else at2 F x' y' := by
  unfold at2
  have hx : x < F.length := (List.getElem?_eq_some_iff.mp hr).1
  by_cases h1 : x' = x
  · subst h1
    rw [getD_of (List.getElem?_set_self hx), getD_of hr]
    by_cases h2 : y' = y
    · subst h2
      rw [getD_of (List.getElem?_set_self hy), if_pos ⟨rfl, rfl⟩]
    · rw [if_neg (fun z => h2 z.2), List.getD_eq_getElem?_getD, List.getElem?_set_ne (fun z => h2 z.symm), ← List.getD_eq_getElem?_getD]
  · rw [if_neg (fun z => h1 z.1), List.getD_eq_getElem?_getD (l := List.set F x _), List.getElem?_set_ne (fun z => h1 z.symm), ← List.getD_eq_getElem?_getD]
theorem flat_rep : ∀ m : Nat, (List.replicate m [V.int 0]).flatten = List.replicate m (vn 0)
  | 0 => rfl
  | m + 1 => by rw [List.replicate_succ, List.flatten_cons, flat_rep m, List.replicate_succ]; rfl
theorem Each.ofGet {α : Type} {R : Hp → Addr → α → Prop} {H : Hp} : ∀ {ps : List Addr} {xs : List α}, ps.length = xs.length → (∀ (k : Nat) (p : Addr) (x : α), ps[k]? = some p → xs[k]? = some x → R H p x) → Each R H ps xs
  | [], [], _, _ => .nil
  | p :: ps, x :: xs, e, h => .cons (h 0 p x rfl rfl) (Each.ofGet (by simpa using e) fun k p' x' e1 e2 => h (k + 1) p' x' (by simpa using e1) (by simpa using e2))
/-- the cells written so far -/
structure Cells (B X : Rows) (ss : List Nat) (i j : Nat) : Prop where
  len : X.length = B.length
  row : ∀ r ∈ X, r.length = B.length
  cell : ∀ a b, a < B.length → b < B.length → (a < i ∨ a = i ∧ b < j) → at2 X (ss.getD a 0) (ss.getD b 0) = ss.getD (at2 B a b) 0
theorem Cells.next {B X : Rows} {ss r : List Nat} {i j : Nat} (h : Cells B X ss i j) (sp : ss.Perm (List.range B.length)) (hi : i < B.length) (hj : j < B.length) (hr : X[ss.getD i 0]? = some r) :
    Cells B (X.set (ss.getD i 0) (r.set (ss.getD j 0) (ss.getD (at2 B i j) 0))) ss i (j + 1) := by
  have lr := h.row r (List.mem_of_getElem? hr)
  refine ⟨by rw [List.length_set]; exact h.len, fun r' hr' => ?_, fun a b ha hb hab => ?_⟩
  · rcases List.mem_or_eq_of_mem_set hr' with z | z
    · exact h.row _ z
    · rw [z, List.length_set]; exact lr
  · rw [at2_set hr _ _ (by rw [lr]; exact getD_lt sp hj)]
    by_cases e : a = i ∧ b = j
    · rw [e.1, e.2, if_pos ⟨rfl, rfl⟩]
    · rw [if_neg (fun z => e ⟨inj_of_perm sp ha hi z.1, inj_of_perm sp hb hj z.2⟩)]
      exact h.cell a b ha hb (by omega)
/-- a list of lists, none of them at u -/
def LstRX (u : Addr) (H : Hp) (p : Addr) (rs : Rows) : Prop := ∃ ps : List Addr, H p = some (.lst (ps.map V.ref)) ∧ Each LstN H ps rs ∧ p ≠ u ∧ ∀ q ∈ ps, q ≠ u
def spRenamed : Sp := fun vs H Q _ => ∃ (u b : Addr) (B : Rows), vs = [.ref u, .ref b] ∧ Urn H u ∧ LstRX u H b B ∧ 1 ≤ B.length ∧ B.length ≤ 12 ∧ (∀ r ∈ B, r.length = B.length ∧ ∀ x ∈ r, x < B.length) ∧
  ∀ p H' rs s, SameX u H H' → Urn H' u → TupR H' p rs → RenBy B rs s → Q (.ref p) H'
theorem sc_law_renamed : FnScope ["_law_urn_here", "_law_rows", "_law_names", "_law_one", "_law_found", "_law_row", "_law_other", "_law_sign"] ["_law_urn_here", "_law_rows"] (defScope (top 69)) := ⟨rfl, rfl, rfl, by decide +kernel, rfl, by decide +kernel, by decide +kernel⟩
theorem ok_law_renamed (T : Txt K mg) (c_law_mixed : Cal P w K mg base 3 "_law_mixed" spMixed) : Cal P w K mg base (4) "_law_renamed" (spRenamed) := by
  obtain ⟨fd, F⟩ := T.f_law_renamed
  refine cal_of T.g_law_renamed F sc_law_renamed (fun vs H Q E h => by first | (obtain ⟨_, rfl, _⟩ := h; rfl) | (obtain ⟨_, _, rfl, _⟩ := h; rfl) | (obtain ⟨_, _, _, rfl, _⟩ := h; rfl) | (obtain ⟨_, _, _, _, rfl, _⟩ := h; rfl) | (obtain ⟨_, _, _, _, _, rfl, _⟩ := h; rfl) | (obtain ⟨_, _, _, _, _, _, rfl, _⟩ := h; rfl) | (obtain ⟨_, _, _, _, _, _, _, rfl, _⟩ := h; rfl) | (obtain ⟨_, _, _, _, _, _, _, _, rfl, _⟩ := h; rfl)) (fun _ _ _ _ _ _ us hl => match us, hl with | [_, _], _ => rfl) (fun cdv A outer s H vs Q E hr h => ?_)
  obtain ⟨u, b, B, rfl, hU, ⟨ps, hb, hB, nbu, npu⟩, n1, n12, hrow, q⟩ := h
  have hz : sizeLine = 16777216 := sizeLine_eq
  have lb := hB.length
  refine ⟨_, (pss_cons (ps_set (i := 2) sc_law_renamed.nd rfl (Or.inl rfl) (pe_op op_catA (pe_tup (pa_cons (pe_int) pa_nil)) (pe_callTy (tupOfK (K := K) rfl) (by rfl) T.z_tuple (by decide +kernel) (pa_cons (pe_lc (own := [("_law_one", 3)]) rfl sc_law_renamed.nd (piT (K := K) rfl (pe_cal c_law_mixed (hr.mono (by decide)) (pa_cons (pv 0) (pa_cons (pe_op op_sub (pe_callB (lenK (K := K) rfl) (by rfl) T.z_len (by decide +kernel) (pa_cons (pv 1) pa_nil)) (pe_int)) pa_nil)))) (blkOk_by (own := [("_law_one", 3)]) (N := ["_law_urn_here", "_law_rows", "_law_names", "_law_one", "_law_found", "_law_row", "_law_other", "_law_sign"]) (sc := defScope (top 69)) (by first | decide +kernel | kernel_rfl | rfl)) (fun _ _ _ _ _ => (pg_name (i := 3) sc_law_renamed.nd rfl (Or.inl rfl))) (fun _ _ _ _ _ => pts_nil) (fun _ _ _ _ _ => (pe_op op_add (pv 3) (pe_int)))) pa_nil))))
      (pss_cons (ps_setLc (i := 4) (own := [("_law_row", 5)]) rfl sc_law_renamed.nd rfl rfl (sw_true rfl rfl rfl (by decide +kernel)) (piL (K := K) rfl (pv 1)) (blkOk_by (own := [("_law_row", 5)]) (N := ["_law_urn_here", "_law_rows", "_law_names", "_law_one", "_law_found", "_law_row", "_law_other", "_law_sign"]) (sc := defScope (top 69)) (by first | decide +kernel | kernel_rfl | rfl)) (fun _ _ _ _ _ => (pg_name (i := 5) sc_law_renamed.nd rfl (Or.inl rfl))) (fun _ _ _ _ _ => pts_nil) (fun _ _ _ _ _ => (pe_op op_rep (pe_lst (pa_cons (pe_int) pa_nil)) (pe_callB (lenK (K := K) rfl) (by rfl) T.z_len (by decide +kernel) (pa_cons (pv 1) pa_nil)))))
      (pss_cons (ps_for PassesOwn.never rfl (pi_enum (by rfl) T.z_enumerate (pa_cons (pv 1) pa_nil)) (pgTup (K := K) (n := 2) rfl rfl (pgs_cons (pg_name (i := 3) sc_law_renamed.nd rfl (Or.inl rfl)) (pgs_cons (pg_name (i := 5) sc_law_renamed.nd rfl (Or.inl rfl)) pgs_nil))) (pss_one (ps_for PassesOwn.never rfl (pi_enum (by rfl) T.z_enumerate (pa_cons (pv 5) pa_nil)) (pgTup (K := K) (n := 2) rfl rfl (pgs_cons (pg_name (i := 6) sc_law_renamed.nd rfl (Or.inl rfl)) (pgs_cons (pg_name (i := 7) sc_law_renamed.nd rfl (Or.inl rfl)) pgs_nil))) (pss_one (ps_asg (pe_ix (ixT (K := K) rfl) (pv 2) (pv 7) (fun _ _ => rfl)) (pg_sub (pe_ix (ixL (K := K) rfl) (pv 4) (pe_ix (ixT (K := K) rfl) (pv 2) (pv 3) (fun _ _ => rfl)) (fun _ _ => rfl)) (pe_ix (ixT (K := K) rfl) (pv 2) (pv 6) (fun _ _ => rfl)) set_list))))))
      (pss_one (ps_ret (pe_callTy (tupOfK (K := K) rfl) (by rfl) T.z_tuple (by decide +kernel) (pa_cons (pe_lc (own := [("_law_row", 5)]) rfl sc_law_renamed.nd (piL (K := K) rfl (pv 4)) (blkOk_by (own := [("_law_row", 5)]) (N := ["_law_urn_here", "_law_rows", "_law_names", "_law_one", "_law_found", "_law_row", "_law_other", "_law_sign"]) (sc := defScope (top 69)) (by first | decide +kernel | kernel_rfl | rfl)) (fun _ _ _ _ _ => (pg_name (i := 5) sc_law_renamed.nd rfl (Or.inl rfl))) (fun _ _ _ _ _ => pts_nil) (fun _ _ _ _ _ => (pe_callTy (tupOfK (K := K) rfl) (by rfl) T.z_tuple (by decide +kernel) (pa_cons (pv 5) pa_nil)))) pa_nil))))))), ?_⟩
  refine ⟨(by decide : 1 ≤ sizeLine), fun T0 hT0 => ?_⟩
  have s0 := same_upd (o := .tup [vn 0]) hT0
  have hT00 : upd H T0 (.tup [vn 0]) T0 = some (.tup [vn 0]) := upd_same
  have nT0u : T0 ≠ u := fun z => by obtain ⟨_, _, _, e⟩ := hU; rw [z, e] at hT0; cases hT0
  have hU0 := hU.mono s0
  generalize upd H T0 (.tup [vn 0]) = H0 at s0 hT00 hU0 ⊢
  refine ⟨_, rfl, _, rfl, b, _, rfl, .inl (SqL.of (s0 _ _ hb)), _, _, rfl, rfl, ?_⟩
  refine ⟨u, B.length - 1, ?_, hU0, by omega, fun M H1 l hl sx1 hU1 hM => ?_⟩
  · show [V.ref u, V.int (((ps.map V.ref).length : Nat) - 1)] = _
    rw [List.length_map, lb]
    have : ((B.length : Nat) : Int) - 1 = ((B.length - 1 : Nat) : Int) := by omega
    rw [this]
  have ll := (perm_lt hl).1
  refine ⟨M, rfl, ⟨_, SqT.of hM⟩, fun D hD => ?_⟩
  refine lc_gen walk_tup (by rw [List.length_map]; omega) hD (fun H' sm => SqT.of (sm _ _ hM)) (fun _ c y => y = vn (l.getD c 0 + 1)) (fun _ _ _ _ _ h => h) (fun c v H2 H3 acc Kf hc s2 hacc hy hKf => ?_) (fun ys H2 s2 hy ly hr' => ?_)
  · obtain ⟨rfl, hv⟩ := hy
    rw [List.length_map] at hc
    rw [List.getElem?_map, List.getElem?_eq_getElem hc] at hv
    cases hv
    refine ⟨rfl, _, rfl, _, _, rfl, rfl, hKf _ _ sRefl ?_⟩
    rw [getD_of (List.getElem?_eq_getElem hc)]
    rfl
  rw [List.length_map] at ly
  have ey : ys = (l.map (· + 1)).map vn := by
    rw [ints_of ys (fun c => l.getD c 0 + 1) hr', ly, map_range_get l (· + 1)]
    intro j x e
    rw [getD_of e]
  refine ⟨D, _, rfl, .inl ⟨SqL.of hy, fun P hP => ?_⟩⟩
  have nDu : D ≠ u := fun z => by obtain ⟨_, _, _, e⟩ := hU1; rw [z, e] at hD; cases hD
  have nPu : P ≠ u := fun z => by obtain ⟨_, _, _, e⟩ := hU1; rw [z, s2 _ _ e] at hP; cases hP
  have s3 := same_upd (o := .tup ys) hP
  refine catR (s3 _ _ (s2 _ _ (sx1 _ _ hT00 nT0u))) upd_same (by simp) (by rw [ey, List.length_map, List.length_map]; show 1 + _ ≤ _; omega) fun N H4 s4 hN => ?_
  have eN : [vn 0] ++ ys = (0 :: l.map (· + 1)).map vn := by rw [ey]; rfl
  rw [eN] at hN
  have sp := succ_perm hl
  rw [show B.length - 1 + 1 = B.length by omega] at sp
  have z0 : (0 :: l.map (· + 1)).getD 0 0 = 0 := rfl
  generalize hs : (0 :: l.map (· + 1)) = ss at hN sp z0
  have sx4 : SameX u H H4 := fun c v e n => s4 _ _ (s3 _ _ (s2 _ _ (sx1 _ _ (s0 _ _ e) n)))
  have hU4 : Urn H4 u := let ⟨x, y, z, e⟩ := hU1; ⟨x, y, z, s4 _ _ (s3 _ _ (s2 _ _ e))⟩
  clear s4 s3 s2 hr' hy ly ey hD hP
  have lss := (perm_lt sp).1
  have hb4 := sx4 _ _ hb nbu
  have hB4 : Each LstN H4 ps B := Each.imp (fun c hc x t => sx4 _ _ t (npu c hc)) hB
  -- the empty table
  refine ⟨_, rfl, b, rfl, ⟨_, SqL.of hb4⟩, fun F hF => ?_⟩
  refine lc_new walk_list (by rw [List.length_map]; omega) hF (fun H' sm => SqL.of (sm _ _ hb4)) (fun H' k q => LstN H' q (List.replicate B.length 0) ∧ q ≠ F) (fun H' H'' k q sx ⟨h, n⟩ => ⟨sx _ _ h n, n⟩) (fun H' k q h => by unfold LstN at h; rw [h.1]; exact fun z => nomatch z) (fun k v H6 H5 acc Kf hk s5 hacc hy hKf => ?_) (fun qs H5 s5 hq lq nd hR => ?_)
  · obtain ⟨e5, hv⟩ := hy
    subst e5
    refine ⟨rfl, (by decide : 1 ≤ sizeLine), fun A1 hA1 => ?_⟩
    refine ⟨_, rfl, b, _, rfl, .inl (SqL.of (by rw [upd_ne (ne_of_none (s5 _ _ hb4) hA1)]; exact s5 _ _ hb4)), ?_⟩
    refine ⟨A1, _, _, rfl, rfl, upd_same, by rw [List.length_map]; omega, by rw [List.length_map]; omega, by rw [List.length_map, lb]; show 1 * (((B.length : Nat) : Int)).toNat ≤ _; omega, fun q hq => ?_⟩
    have hq0 : H5 q = none := (same_upd hA1).free hq
    refine hKf q _ (fun c v e => by rw [upd_ne (ne_of_none ((same_upd hA1) _ _ e) hq)]; exact (same_upd hA1) _ _ e) hq0 ⟨?_, fun z => by rw [z, hacc] at hq0; cases hq0⟩
    show upd _ _ _ _ = _
    rw [upd_same, List.length_map, lb, Int.toNat_natCast]
    refine congrArg some (congrArg HO.lst ?_)
    rw [List.map_replicate]
    exact flat_rep _
  have hE5 : Each LstN H5 qs (List.replicate B.length (List.replicate B.length 0)) := Each.ofGet (by rw [lq, List.length_map, lb, List.length_replicate]) fun k p x e1 e2 => by
    have := List.eq_of_mem_replicate (List.mem_of_getElem? e2)
    rw [this]
    exact (hR k p e1).1.1
  have n4 : ∀ p ∈ qs, H4 p = none := fun p hp => let ⟨k, hk⟩ := List.mem_iff_getElem?.mp hp; (hR k p hk).2
  have nF : ∀ p ∈ qs, p ≠ F := fun p hp => let ⟨k, hk⟩ := List.mem_iff_getElem?.mp hp; (hR k p hk).1.2
  rw [List.length_map, lb] at lq
  refine ⟨_, rfl, b, _, rfl, SqL.of (s5 _ _ hb4), ?_⟩
  refine for_it walk_enum (fun i σ H' => (∃ x y z w, σ = [some (.ref u), some (.ref b), some (.ref N), x, some (.ref F), y, z, w]) ∧ Same H4 H' ∧ H' F = some (.lst (qs.map V.ref)) ∧ ∃ X, Each LstN H' qs X ∧ Cells B X ss i 0) ⟨⟨_, _, _, _, rfl⟩, s5, hq, _, hE5, by rw [List.length_replicate], fun r h => by rw [List.eq_of_mem_replicate h, List.length_replicate], fun _ _ _ _ h => by omega⟩ (fun i σ H' _ p => SqL.of (p.2.1 _ _ hb4)) (fun i x σ H6 H7 hi p y => ?_) (fun σ H' p => ?_)
  · obtain ⟨⟨_, _, _, _, rfl⟩, sm, hq6, X, hX, hC⟩ := p
    obtain ⟨T1, x1, x2, rfl, hT1, rfl, e1, e2⟩ := y
    cases e1
    rw [List.length_map, lb] at hi
    obtain ⟨pl, row, rfl, hrw, tr⟩ := hB4.refs e2
    obtain ⟨lrow, mrow⟩ := hrow row (List.mem_of_getElem? hrw)
    refine ⟨T1, _, rfl, SqT.of upd_same, rfl, _, _, rfl, _, _, rfl, rfl, ?_⟩
    have s7 := same_upd (o := .tup [V.int (i : Nat), .ref pl]) hT1
    have nT1 : ∀ p ∈ qs, p ≠ T1 := fun p hp z => by
      obtain ⟨k, hk⟩ := List.mem_iff_getElem?.mp hp
      obtain ⟨x, _, tx⟩ := hX.get hk
      unfold LstN at tx
      rw [z, hT1] at tx
      cases tx
    have hq7 := s7 _ _ hq6
    have hX7 := eachL hX s7
    have sm7 : Same H4 (upd H6 T1 (.tup [V.int (i : Nat), .ref pl])) := fun c v e => s7 _ _ (sm _ _ e)
    generalize upd H6 T1 (.tup [V.int (i : Nat), .ref pl]) = H8 at s7 hq7 hX7 sm7 ⊢
    refine ⟨_, rfl, pl, _, rfl, SqL.of (sm7 _ _ tr), ?_⟩
    refine for_it walk_enum (fun j σ H' => (∃ z w, σ = [some (.ref u), some (.ref b), some (.ref N), some (vn i), some (.ref F), some (.ref pl), z, w]) ∧ Same H4 H' ∧ H' F = some (.lst (qs.map V.ref)) ∧ ∃ X, Each LstN H' qs X ∧ Cells B X ss i j) ⟨⟨_, _, rfl⟩, sm7, hq7, X, hX7, hC⟩ (fun j σ H' _ p => SqL.of (p.2.1 _ _ tr)) (fun j x σ H9 H10 hj p y => ?_) (fun σ H' p => ?_)
    · obtain ⟨⟨_, _, rfl⟩, sm9, hq9, X, hX, hC⟩ := p
      obtain ⟨T2, x1, x2, rfl, hT2, rfl, e1, e2⟩ := y
      cases e1
      rw [List.length_map, lrow] at hj
      have hjr : row[j]? = some (row[j]'(by omega)) := List.getElem?_eq_getElem _
      have e3 : (row.map vn)[j]? = some x2 := e2
      rw [List.getElem?_map, hjr] at e3
      cases e3
      have hv := mrow _ (List.mem_of_getElem? hjr)
      refine ⟨T2, _, rfl, SqT.of upd_same, rfl, _, _, rfl, _, _, rfl, rfl, ?_⟩
      have s10 := same_upd (o := .tup [V.int (j : Nat), vn (row[j]'(by omega))]) hT2
      have hq10 := s10 _ _ hq9
      have hX10 := eachL hX s10
      have sm10 : Same H4 (upd H9 T2 (.tup [V.int (j : Nat), vn (row[j]'(by omega))])) := fun c v e => s10 _ _ (sm9 _ _ e)
      generalize upd H9 T2 (.tup [V.int (j : Nat), vn (row[j]'(by omega))]) = H11 at s10 hq10 hX10 sm10 ⊢
      have hN11 := sm10 _ _ hN
      have li := getD_lt sp hi
      have lj := getD_lt sp hj
      obtain ⟨pq, hpq⟩ : ∃ pq, qs[ss.getD i 0]? = some pq := ⟨_, List.getElem?_eq_getElem (by omega)⟩
      obtain ⟨rr, hrr, trr⟩ := hX10.get hpq
      have lrr := hC.row rr (List.mem_of_getElem? hrr)
      have mpq := List.mem_of_getElem? hpq
      refine ⟨_, rfl, _, rfl, N, _, _, _, rfl, rfl, SqT.of hN11, atN (by omega), ?_⟩
      refine ⟨_, rfl, _, rfl, _, rfl, N, _, _, _, rfl, rfl, SqT.of hN11, atN (by omega), F, _, _, _, rfl, rfl, SqL.of hq10, atV (by rw [List.getElem?_map, hpq]; rfl), ?_⟩
      refine ⟨_, rfl, _, rfl, N, _, _, _, rfl, rfl, SqT.of hN11, atN (by omega), ?_⟩
      refine ⟨pq, _, _, ss.getD j 0, rfl, rfl, trr, ?_, ?_⟩
      · unfold ixN
        rw [if_pos (by omega), if_pos (by rw [List.length_map]; omega), Int.toNat_natCast]
      · refine ⟨⟨_, _, rfl⟩, fun c v e => ?_, ?_, _, Each.set hX10 hpq nd (fun a x n h => by show upd _ _ _ _ = _; rw [upd_ne n]; exact h) ?_, hC.next sp hi hj hrr⟩
        · rw [upd_ne (fun z => by rw [z, n4 _ mpq] at e; cases e)]
          exact sm10 _ _ e
        · rw [upd_ne (nF _ mpq).symm]
          exact hq10
        · show upd _ _ _ _ = _
          rw [upd_same, List.map_set]
          unfold at2
          rw [getD_of hrw, getD_of hjr]
    · obtain ⟨⟨_, _, rfl⟩, sm9, hq9, X, hX, hC⟩ := p
      rw [List.length_map, lrow] at hC
      exact ⟨⟨_, _, _, _, rfl⟩, sm9, hq9, X, hX, hC.len, hC.row, fun a b ha hb h => hC.cell a b ha hb (by omega)⟩
  · obtain ⟨⟨_, _, _, _, rfl⟩, sm, hq6, X, hX, hC⟩ := p
    rw [List.length_map, lb] at hC
    have lqx := hX.length
    refine ⟨_, rfl, F, rfl, ⟨_, SqL.of hq6⟩, fun D2 hD2 => ?_⟩
    refine lc_gen walk_list (by rw [List.length_map]; omega) hD2 (fun H' s' => SqL.of (s' _ _ hq6)) (fun H' k y => ∃ q, y = .ref q ∧ q ≠ D2 ∧ TupN H' q (X.getD k [])) (fun H0 H' k y sx ⟨p, e, n, t⟩ => ⟨p, e, n, sx _ _ t n⟩) (fun k v H7 H8 acc Kf hk s7 hacc hy hKf => ?_) (fun ys H7 s7 hy ly hr' => ?_)
    · obtain ⟨rfl, hv⟩ := hy
      obtain ⟨pq, rr, rfl, hrr, trr⟩ := hX.refs hv
      refine ⟨rfl, _, rfl, pq, _, rfl, .inl ⟨SqL.of (s7 _ _ trr), fun P hP => ?_⟩⟩
      refine hKf _ _ (same_upd hP) ⟨P, rfl, (fun z => by rw [z, hacc] at hP; cases hP), ?_⟩
      show upd _ _ _ _ = _
      rw [upd_same, getD_of hrr]
    · obtain ⟨qs2, e, hQ⟩ := each_of (RR := TupN) ys (fun k => X.getD k []) fun k y e => let ⟨p, h1, _, h2⟩ := hr' k y e; ⟨p, h1, h2⟩
      rw [ly, List.length_map, lqx, map_range_get X (fun r => r) _ (fun k x h => getD_of h), List.map_id'] at hQ
      refine ⟨D2, _, rfl, .inl ⟨SqL.of hy, fun P hP => ?_⟩⟩
      have s8 := same_upd (o := .tup ys) hP
      have sF : Same H4 (upd H7 P (.tup ys)) := fun c v e => s8 _ _ (s7 _ _ (sm _ _ e))
      refine q P _ X ss (fun c v e n => sF _ _ (sx4 _ _ e n)) (hU4.mono sF) ⟨qs2, by rw [upd_same, e], hQ.imp fun a _ x h => s8 _ _ h⟩ ⟨sp, z0, hC.len, hC.row, fun a ha b hb => hC.cell a b ha hb (by omega)⟩
end
end K61

set_option Elab.async false
set_option maxRecDepth 100000
set_option maxHeartbeats 4000000
namespace K61
open PySem PySem.Spec PyProof.Rows L2
section
variable {P : Program} {w : World} {K : PySem.W.Frag} {mg : Str → Option Value} {base : Heap}
def spLOrder : Sp := fun vs H Q _ => ∃ (a : Addr) (rs : Rows) (i k : Nat) (x : List Nat), vs = [.ref a, vn i] ∧ TupR H a rs ∧ Lat rs ∧ rs[i]? = some x ∧ ordO x = some k ∧ Q (vn k) H
theorem sc_law_order : FnScope ["_law_rows", "_law_name", "_law_found", "_law_at"] ["_law_rows", "_law_name"] (defScope (top 70)) := ⟨rfl, rfl, rfl, by decide +kernel, rfl, by decide +kernel, by decide +kernel⟩
theorem ok_law_order (T : Txt K mg)  : Cal P w K mg base (1) "_law_order" (spLOrder) := by
  obtain ⟨fd, F⟩ := T.f_law_order
  refine cal_of T.g_law_order F sc_law_order (fun vs H Q E h => by first | (obtain ⟨_, rfl, _⟩ := h; rfl) | (obtain ⟨_, _, rfl, _⟩ := h; rfl) | (obtain ⟨_, _, _, rfl, _⟩ := h; rfl) | (obtain ⟨_, _, _, _, rfl, _⟩ := h; rfl) | (obtain ⟨_, _, _, _, _, rfl, _⟩ := h; rfl) | (obtain ⟨_, _, _, _, _, _, rfl, _⟩ := h; rfl) | (obtain ⟨_, _, _, _, _, _, _, rfl, _⟩ := h; rfl) | (obtain ⟨_, _, _, _, _, _, _, _, rfl, _⟩ := h; rfl)) (fun _ _ _ _ _ _ us hl => match us, hl with | [_, _], _ => rfl) (fun cdv A outer s H vs Q E hr h => ?_)
  obtain ⟨a, rs, i, k, x, rfl, ⟨ps, ha, hE⟩, L, hx, hk, q⟩ := h
  have h12 := L.le
  have px := perm_lt (L.row x (List.mem_of_getElem? hx))
  have hi : i < rs.length := (List.getElem?_eq_some_iff.mp hx).1
  have x0 : x.getD 0 0 = i := by
    have z := congrArg (fun l => l[i]?) L.heads
    simp only [List.getElem?_map, List.getElem?_range hi, hx] at z
    exact Option.some.inj z
  obtain ⟨p, hp, tp⟩ := tupR_get hE hx
  refine ⟨_, (pss_cons (ps_par (i := 2) (j := 3) rfl sc_law_order.nd rfl rfl (by decide) rfl rfl (pa_cons (pe_int) (pa_cons (pv 1) pa_nil)) (by rfl))
      (pss_cons (ps_while PassesOwn.never (pt_cmpR op_ne (pv 3) (pe_int) (nomark _)) (pss_one (ps_par (i := 2) (j := 3) rfl sc_law_order.nd rfl rfl (by decide) rfl rfl (pa_cons (pe_op op_add (pv 2) (pe_int)) (pa_cons (pe_ix (ixT (K := K) rfl) (pe_ix (ixT (K := K) rfl) (pv 0) (pv 1) (fun _ _ => rfl)) (pv 3) (fun _ _ => rfl)) pa_nil)) (by rfl))))
      (pss_one (ps_ret (pv 2))))), ?_⟩
  refine ⟨_, rfl, _, _, rfl, ?_⟩
  refine ⟨fun m σ H' => H' = H ∧ m ≤ 63 ∧ ∃ f c : Nat, σ = [some (.ref a), some (vn i), some (vn f), some (vn c)] ∧ c < rs.length ∧ (c = 0 ∧ f = k ∨ c ≠ 0 ∧ ∃ r, cycGo x 0 m c = some r ∧ f + r = k), ⟨63, rfl, Nat.le_refl _, 1, i, rfl, hi, ?_⟩, fun m σ H' p => ?_⟩
  · unfold ordO cycGo at hk
    rw [x0] at hk
    by_cases z : i = 0
    · rw [if_pos z] at hk
      exact .inl ⟨z, Option.some.inj hk⟩
    · rw [if_neg z] at hk
      obtain ⟨r, h1, h2⟩ := Option.map_eq_some_iff.mp hk
      exact .inr ⟨z, r, h1, by omega⟩
  obtain ⟨rfl, hm, f, c, rfl, hc, hcase⟩ := p
  refine ⟨_, rfl, rfl, _, rfl, ?_⟩
  by_cases z : c = 0
  · rcases hcase with ⟨_, rfl⟩ | ⟨z', _⟩
    · subst z
      refine iteF ?_
      exact ⟨_, rfl, q⟩
    · exact absurd z z'
  · rcases hcase with ⟨z', _⟩ | ⟨_, r, hr, hk⟩
    · exact absurd z' z
    have df : decide (vn c = V.int 0) = false := decide_eq_false fun e => z (vn_inj (b := 0) e)
    rw [df]
    refine iteT ?_
    cases m with
    | zero => cases hr
    | succ m =>
      unfold cycGo at hr
      refine ⟨fun σ' H'' => H'' = H' ∧ m ≤ 63 ∧ ∃ f c : Nat, σ' = [some (.ref a), some (vn i), some (vn f), some (vn c)] ∧ c < rs.length ∧ (c = 0 ∧ f = k ∨ c ≠ 0 ∧ ∃ r, cycGo x 0 m c = some r ∧ f + r = k), fun σ' H'' p => ⟨m, Nat.lt_succ_self _, p⟩, ?_⟩
      refine ⟨_, rfl, _, _, rfl, rfl, _, rfl, _, rfl, a, _, _, .ref p, rfl, rfl, SqT.of ha, hp, _, rfl, p, _, _, vn (x.getD c 0), rfl, rfl, SqT.of tp, atN (by omega), _, _, rfl, rfl, by omega, f + 1, x.getD c 0, rfl, ?_, ?_⟩
      · rw [List.getD_eq_getElem?_getD, List.getElem?_eq_getElem (by omega)]
        exact px.2 _ (List.getElem_mem _)
      · by_cases w : x.getD c 0 = 0
        · rw [if_pos w] at hr
          cases hr
          exact .inl ⟨w, hk⟩
        · rw [if_neg w] at hr
          obtain ⟨r', h1, h2⟩ := Option.map_eq_some_iff.mp hr
          exact .inr ⟨w, r', h1, by omega⟩
theorem inV_vn (f : Nat) : ∀ l : List Nat, inV (vn f) (l.map vn) = l.any fun r => r == f
  | [] => rfl
  | a :: l => by
    have ih := inV_vn f l
    unfold inV at ih ⊢
    rw [List.map_cons, List.any_cons, List.any_cons, ih]
    refine congrArg (· || _) ?_
    show ((a : Int) == (f : Int)) = (a == f)
    by_cases h : a = f
    · rw [h]; simp
    · have h' : ¬ (a : Int) = f := by omega
      rw [beq_eq_false_iff_ne.mpr h, beq_eq_false_iff_ne.mpr h']
def spLBar : Sp := fun vs H Q _ => ∃ (a : Addr) (rs : Rows), vs = [.ref a] ∧ TupR H a rs ∧ Grp rs ∧ ∀ H', Same H H' → Q (.bl (barM rs)) H'
theorem sc_law_is_barred : FnScope ["_law_rows", "_law_most", "_law_name"] ["_law_rows"] (defScope (top 71)) := ⟨rfl, rfl, rfl, by decide +kernel, rfl, by decide +kernel, by decide +kernel⟩
theorem ok_law_is_barred (T : Txt K mg) (c_law_order : Cal P w K mg base 1 "_law_order" spLOrder) : Cal P w K mg base (2) "_law_is_barred" (spLBar) := by
  obtain ⟨fd, F⟩ := T.f_law_is_barred
  refine cal_of T.g_law_is_barred F sc_law_is_barred (fun vs H Q E h => by first | (obtain ⟨_, rfl, _⟩ := h; rfl) | (obtain ⟨_, _, rfl, _⟩ := h; rfl) | (obtain ⟨_, _, _, rfl, _⟩ := h; rfl) | (obtain ⟨_, _, _, _, rfl, _⟩ := h; rfl) | (obtain ⟨_, _, _, _, _, rfl, _⟩ := h; rfl) | (obtain ⟨_, _, _, _, _, _, rfl, _⟩ := h; rfl) | (obtain ⟨_, _, _, _, _, _, _, rfl, _⟩ := h; rfl) | (obtain ⟨_, _, _, _, _, _, _, _, rfl, _⟩ := h; rfl)) (fun _ _ _ _ _ _ us hl => match us, hl with | [_], _ => rfl) (fun cdv A outer s H vs Q E hr h => ?_)
  obtain ⟨a, rs, rfl, ⟨ps, ha, hE⟩, G, q⟩ := h
  have h12 := G.le
  have hpos := G.pos
  have lp := hE.length
  refine ⟨_, (pss_cons (ps_set (i := 1) sc_law_is_barred.nd rfl (Or.inl rfl) (pe_int))
      (pss_cons (ps_while PassesOwn.never (pt_cmpR op_eq (pe_op op_mod (pe_callB (lenK (K := K) rfl) (by rfl) T.z_len (by decide +kernel) (pa_cons (pv 0) pa_nil)) (pe_op op_mul (pe_int) (pv 1))) (pe_int) (nomark _)) (pss_one (ps_set (i := 1) sc_law_is_barred.nd rfl (Or.inl rfl) (pe_op op_mul (pe_int) (pv 1)))))
      (pss_one (ps_ret (pe_and (pe_cmpR op_gt (pv 1) (pe_int) (nomark _)) (pe_one (pe_cmpR op_in_seq (pv 1) (pe_lc (own := [("_law_name", 2)]) rfl sc_law_is_barred.nd (pi_range1 (by rfl) T.z_range (pa_cons (pe_callB (lenK (K := K) rfl) (by rfl) T.z_len (by decide +kernel) (pa_cons (pv 0) pa_nil)) pa_nil)) (blkOk_by (own := [("_law_name", 2)]) (N := ["_law_rows", "_law_most", "_law_name"]) (sc := defScope (top 71)) (by first | decide +kernel | kernel_rfl | rfl)) (fun _ _ _ _ _ => (pg_name (i := 2) sc_law_is_barred.nd rfl (Or.inl rfl))) (fun _ _ _ _ _ => pts_nil) (fun _ _ _ _ _ => (pe_cal c_law_order (hr.mono (by decide)) (pa_cons (pv 0) (pa_cons (pv 2) pa_nil))))) (by rfl)))))))), ?_⟩
  have e64 : (2 : Nat) ^ 64 = 18446744073709551616 := by decide
  refine ⟨fun m σ H' => H' = H ∧ ∃ f : Nat, (∃ y, σ = [some (.ref a), some (vn f), y]) ∧ shareGo rs.length m f = share rs.length ∧ rs.length < f * 2 ^ m ∧ 1 ≤ f ∧ f ≤ rs.length, ⟨64, rfl, 1, ⟨_, rfl⟩, rfl, by omega, by omega, by omega⟩, fun m σ H' p => ?_⟩
  obtain ⟨rfl, f, ⟨_, rfl⟩, e, hf, hf1, hf2⟩ := p
  refine ⟨_, rfl, a, _, rfl, .inr (SqT.of ha), _, rfl, _, _, rfl, rfl, .inl ⟨by omega, by omega⟩, _, _, rfl, rfl, by omega, rfl, _, rfl, ?_⟩
  have ec : (((ps.map V.ref).length : Nat) : Int) % (2 * (f : Int)) = ((rs.length % (2 * f) : Nat) : Int) := by rw [List.length_map, lp, Int.natCast_emod]; rfl
  show (if decide (V.int ((((ps.map V.ref).length : Nat) : Int) % (2 * (f : Int))) = V.int 0) = true then _ else _)
  rw [ec, dec_v0]
  by_cases hm : rs.length % (2 * f) = 0
  · rw [decide_eq_true hm]
    refine iteT ?_
    cases m with
    | zero => exact absurd hm (mod_big hpos (by simpa using hf))
    | succ m =>
      unfold shareGo at e
      rw [if_pos hm] at e
      refine ⟨fun σ' H'' => H'' = H' ∧ ∃ f : Nat, (∃ y, σ' = [some (.ref a), some (vn f), y]) ∧ shareGo rs.length m f = share rs.length ∧ rs.length < f * 2 ^ m ∧ 1 ≤ f ∧ f ≤ rs.length, fun σ' H'' p => ⟨m, Nat.lt_succ_self _, p⟩, ?_⟩
      refine ⟨_, rfl, _, _, rfl, rfl, .inr ⟨by omega, by omega⟩, rfl, 2 * f, ⟨‹Option V›, ?_⟩, e, by rw [Nat.pow_succ] at hf; rw [Nat.mul_comm 2 f, Nat.mul_assoc, Nat.mul_comm 2]; exact hf, by omega, Nat.le_of_dvd (by omega) (Nat.dvd_of_mod_eq_zero hm) |> fun z => by omega⟩
      rw [show vn (2 * f) = V.int (2 * (f : Int)) from congrArg V.int (by omega)]
      rfl
  · rw [decide_eq_false hm]
    refine iteF ?_
    have ef : f = share rs.length := by
      cases m with
      | zero => exact e
      | succ m =>
        unfold shareGo at e
        rw [if_neg hm] at e
        exact e
    clear e hf
    subst ef
    have eb : barM rs = (decide (1 < share rs.length) && inV (vn (share rs.length)) ((rs.map ordR).map vn)) := by
      unfold barM
      rw [inV_vn, List.any_map]
      rfl
    have hps : ∀ k x, rs[k]? = some x → ordO x = some (ordR x) := fun k x hx => by
      obtain ⟨o, ho⟩ := G.ord x (List.mem_of_getElem? hx)
      unfold ordR
      rw [ho]
      rfl
    have d1 : (decide ((1 : Int) < ((share rs.length : Nat) : Int))) = decide (1 < share rs.length) := decide_eq_decide.mpr (by omega)
    refine ⟨_, rfl, _, _, rfl, rfl, _, rfl, ?_⟩
    rw [d1]
    by_cases h1 : 1 < share rs.length
    · rw [decide_eq_true h1] at eb ⊢
      refine iteT ⟨_, rfl, _, rfl, a, _, rfl, .inr (SqT.of ha), ?_⟩
      refine ⟨_, rfl, by rw [List.length_map]; omega, by rw [List.length_map]; omega, fun D hD => ?_⟩
      refine lc_gen walk_range (by rw [List.length_map]; omega) hD (fun _ _ => trivial) (fun _ k y => y = vn (ordR (rs.getD k []))) (fun _ _ _ _ _ h => h) (fun k v H2 H3 acc Kf hk sm hacc hy hKf => ?_) (fun ys H2 sm hy ly hr' => ?_)
      · obtain ⟨rfl, hv⟩ := hy
        rw [List.length_map, Int.toNat_natCast, lp] at hk
        obtain rfl : v = vn k := hv.trans (by show V.int (0 + (k : Int)) = _; rw [Int.zero_add])
        have hx : rs[k]? = some rs[k] := List.getElem?_eq_getElem hk
        refine ⟨rfl, _, rfl, _, rfl, a, rs, k, ordR rs[k], rs[k], rfl, ⟨ps, sm _ _ ha, eachM hE sm⟩, G.toLat, hx, hps k _ hx, hKf _ _ sRefl ?_⟩
        rw [getD_of hx]
      · have e2 : ys = (rs.map ordR).map vn := by
          rw [ints_of ys (fun k => ordR (rs.getD k [])) hr', ly, List.length_map, Int.toNat_natCast, lp, map_range_get rs ordR]
          intro j x e
          rw [getD_of e]
        refine ⟨D, ys, rfl, .inl (SqL.of hy), rfl, ?_, ?_⟩
        · rw [e2, List.all_map, List.all_eq_true]
          exact fun _ _ => rfl
        · show Q (V.bl (inV (vn (share rs.length)) ys)) H2
          rw [e2]
          rw [Bool.true_and] at eb
          rw [← eb]
          exact q _ sm
    · rw [decide_eq_false h1] at eb ⊢
      refine iteF ?_
      rw [Bool.false_and] at eb
      rw [← eb]
      exact q _ sRefl
end
end K61

set_option Elab.async false
set_option maxRecDepth 100000
set_option maxHeartbeats 4000000
namespace K61
open PySem PySem.Spec PyProof.Rows L2
section
variable {P : Program} {w : World} {K : PySem.W.Frag} {mg : Str → Option Value} {base : Heap}
theorem filt_ones (c : Nat → Option V) (h : ∀ k, c k = none ∨ c k = some (.int 1)) : ∀ n : Nat, ∃ m : Nat, (List.range n).filterMap c = (List.replicate m (1 : Int)).map V.int ∧ (m = 0 ↔ ∀ k, k < n → c k = none)
  | 0 => ⟨0, rfl, by simp⟩
  | n + 1 => by
    obtain ⟨m, e, hm⟩ := filt_ones c h n
    rw [List.range_succ, List.filterMap_append, e]
    rcases h n with z | z
    · refine ⟨m, by simp [z], hm.trans ⟨fun w k hk => ?_, fun w k hk => w k (by omega)⟩⟩
      by_cases hkn : k = n
      · rw [hkn]; exact z
      · exact w k (by omega)
    · refine ⟨m + 1, ?_, ⟨fun w => by omega, fun w => ?_⟩⟩
      · rw [List.replicate_succ', List.map_append]
        simp [z]
      · have := w n (by omega)
        rw [z] at this
        cases this
theorem ints_all : ∀ xs : List V, (∀ v ∈ xs, ∃ i : Int, v = .int i) → ∃ is : List Int, xs = is.map V.int
  | [], _ => ⟨[], rfl⟩
  | v :: xs, h => by
    obtain ⟨i, rfl⟩ := h v List.mem_cons_self
    obtain ⟨is, rfl⟩ := ints_all xs fun u hu => h u (List.mem_cons_of_mem _ hu)
    exact ⟨i :: is, rfl⟩
theorem no_crs {rs : Rows} : ¬ CrsV rs [V.non] := fun ⟨l, e, _⟩ => by cases l <;> simp at e
def isBl : V → Bool
  | .bl _ => true
  | _ => false
theorem shapedL (ns : List Int) : SeqAt.shaped (.list (ns.map PyData.int)) = true := PySem.W.ke_shaped_ints _
def spLCross (K : PySem.W.Frag) : Sp := fun vs H Q _ => ∃ (a : Addr) (rs : Rows) (v : V) (xs : List V), vs = [.ref a, v] ∧ TupR H a rs ∧ Lat rs ∧ Ask K H v xs ∧ ∀ (b : Bool) H', (b = true ↔ CrsV rs xs) → Same H H' → Q (.bl b) H'
theorem sc_law_is_complete : FnScope ["_law_rows", "_law_value", "_law_one", "_law_name", "_law_image"] ["_law_rows", "_law_value"] (defScope (top 72)) := ⟨rfl, rfl, rfl, by decide +kernel, rfl, by decide +kernel, by decide +kernel⟩
theorem ok_law_is_complete (T : Txt K mg)  : Cal P w K mg base (1) "_law_is_complete" (spLCross K) := by
  obtain ⟨fd, F⟩ := T.f_law_is_complete
  refine cal_of T.g_law_is_complete F sc_law_is_complete (fun vs H Q E h => by first | (obtain ⟨_, rfl, _⟩ := h; rfl) | (obtain ⟨_, _, rfl, _⟩ := h; rfl) | (obtain ⟨_, _, _, rfl, _⟩ := h; rfl) | (obtain ⟨_, _, _, _, rfl, _⟩ := h; rfl) | (obtain ⟨_, _, _, _, _, rfl, _⟩ := h; rfl) | (obtain ⟨_, _, _, _, _, _, rfl, _⟩ := h; rfl) | (obtain ⟨_, _, _, _, _, _, _, rfl, _⟩ := h; rfl) | (obtain ⟨_, _, _, _, _, _, _, _, rfl, _⟩ := h; rfl)) (fun _ _ _ _ _ _ us hl => match us, hl with | [_, _], _ => rfl) (fun cdv A outer s H vs Q E hr h => ?_)
  obtain ⟨a, rs, v, xs, rfl, ⟨ps, ha, hE⟩, L, ask, q⟩ := h
  have h12 := L.le
  have lp := hE.length
  refine ⟨_, (pss_cons (ps_if (PW.pt (pw_or (pt_not (pt_val (pe_callB (isiK (K := K) rfl) (by rfl) T.z_isinstance (by decide +kernel) (pa_cons (pv 1) (pa_cons (pe_bltn (v := .ty "tuple") (by rfl) T.z_tuple (by decide +kernel) rfl) pa_nil))))) (pw_or1 (pt_cmpR op_ne (pe_callB (lenK (K := K) rfl) (by rfl) T.z_len (by decide +kernel) (pa_cons (pv 1) pa_nil)) (pe_callB (lenK (K := K) rfl) (by rfl) T.z_len (by decide +kernel) (pa_cons (pv 0) pa_nil)) (nomark _))))) (pss_one (ps_ret (pe_bl))) pss_nil)
      (pss_cons (ps_if (pt_cmpR (op_neD hr.units) (pe_lc (own := [("_law_one", 2)]) rfl sc_law_is_complete.nd (piT (K := K) rfl (pv 1)) (blkOk_by (own := [("_law_one", 2)]) (N := ["_law_rows", "_law_value", "_law_one", "_law_name", "_law_image"]) (sc := defScope (top 72)) (by first | decide +kernel | kernel_rfl | rfl)) (fun _ _ _ _ _ => (pg_name (i := 2) sc_law_is_complete.nd rfl (Or.inl rfl))) (fun _ _ _ _ _ => (pts_one (PW.pt (pw_or (pt_not (pt_val (pe_callB (isiK (K := K) rfl) (by rfl) T.z_isinstance (by decide +kernel) (pa_cons (pv 2) (pa_cons (pe_bltn (v := .ty "int") (by rfl) T.z_int (by decide +kernel) rfl) pa_nil))))) (pw_or1 (pt_val (pe_callB (isiK (K := K) rfl) (by rfl) T.z_isinstance (by decide +kernel) (pa_cons (pv 2) (pa_cons (pe_bltn (v := .ty "bool") (by rfl) T.z_bool (by decide +kernel) rfl) pa_nil))))))))) (fun _ _ _ _ _ => (pe_int))) (pe_lst pa_nil) (nomark _)) (pss_one (ps_ret (pe_bl))) pss_nil)
      (pss_cons (ps_if (pt_cmpR (op_neD hr.units) (pe_callB cr_sortedT (by rfl) T.z_sorted (by decide +kernel) (pa_cons (pv 1) pa_nil)) (pe_listRg rfl (by rfl) T.z_list (prg_1 (by rfl) T.z_range (pe_callB (lenK (K := K) rfl) (by rfl) T.z_len (by decide +kernel) (pa_cons (pv 0) pa_nil)))) (nomark _)) (pss_one (ps_ret (pe_bl))) pss_nil)
      (pss_one (ps_ret (pe_cmpR op_eq (pe_lenSetL (by rfl) T.z_len (by rfl) T.z_set (pe_lc (own := [("_law_name", 3), ("_law_image", 4)]) rfl sc_law_is_complete.nd (pi_enumT (by rfl) T.z_enumerate (pa_cons (pv 1) pa_nil)) (blkOk_by (own := [("_law_name", 3), ("_law_image", 4)]) (N := ["_law_rows", "_law_value", "_law_one", "_law_name", "_law_image"]) (sc := defScope (top 72)) (by first | decide +kernel | kernel_rfl | rfl)) (fun _ _ _ _ _ => (pgTup (K := K) (n := 2) rfl rfl (pgs_cons (pg_name (i := 3) sc_law_is_complete.nd rfl (Or.inl rfl)) (pgs_cons (pg_name (i := 4) sc_law_is_complete.nd rfl (Or.inl rfl)) pgs_nil)))) (fun _ _ _ _ _ => pts_nil) (fun _ _ _ _ _ => (pe_ix (ixT (K := K) rfl) (pe_ix (ixT (K := K) rfl) (pv 0) (pv 3) (fun _ _ => rfl)) (pv 4) (fun _ _ => rfl))))) (pe_callB (lenK (K := K) rfl) (by rfl) T.z_len (by decide +kernel) (pa_cons (pv 0) pa_nil)) (nomark _))))))), ?_⟩
  cases ask with
  | lst hb =>
    refine ⟨_, rfl, _, _, _, _, false, rfl, .ty _, .base (.lst hb), kit_ty (by decide +kernel), _, rfl, ?_⟩
    exact iteT (iteT (q false H (by simp; exact fun z => no_crs z) sRefl))
  | non =>
    refine ⟨_, rfl, _, _, _, _, false, rfl, .ty _, .base .non, kit_ty (by decide +kernel), _, rfl, ?_⟩
    exact iteT (iteT (q false H (by simp; exact fun z => no_crs z) sRefl))
  | int i =>
    refine ⟨_, rfl, _, _, _, _, false, rfl, .ty _, .base (.int i), kit_ty (by decide +kernel), _, rfl, ?_⟩
    exact iteT (iteT (q false H (by simp; exact fun z => no_crs z) sRefl))
  | @tup b xs hb hi hz =>
    refine ⟨_, rfl, _, _, _, _, true, rfl, .ty _, .base (.tup hb), kit_ty (by decide +kernel), _, rfl, ?_⟩
    refine iteF ?_
    refine ⟨_, rfl, b, xs, rfl, .inr (SqT.of hb), _, rfl, a, _, rfl, .inr (SqT.of ha), rfl, _, rfl, ?_⟩
    rw [List.length_map, lp]
    by_cases hl : xs.length = rs.length
    case neg =>
      rw [decide_eq_false (by simp; omega)]
      refine iteT (q false H ?_ sRefl)
      simp
      rintro ⟨m, e, c⟩
      exact hl (by rw [e, List.length_map, (perm_lt c.1).1])
    rw [decide_eq_true (by simp; omega)]
    refine iteF ?_
    -- the items
    refine ⟨_, rfl, b, rfl, ⟨xs, SqT.of hb⟩, fun D hD => ?_⟩
    refine lc_opt walk_tup (by omega) hD (fun H' sm => SqT.of (sm _ _ hb)) (fun k => if isBl (xs.getD k .non) = true then some (.int 1) else none) (fun k x H0 H' Kf Kn hk sm hacc hy hK hN => ?_) (fun H' sm hl' => ?_)
    · obtain ⟨rfl, hx⟩ := hy
      refine ⟨rfl, ?_⟩
      have hx' := getD_of (d := V.non) hx
      rcases hi x (List.mem_of_getElem? hx) with ⟨i, rfl⟩ | ⟨c, rfl⟩
      · refine ⟨_, rfl, _, _, _, _, true, rfl, .ty _, .base (.int i), kit_ty (by decide +kernel), _, rfl, ?_⟩
        refine iteF ⟨_, rfl, _, _, _, _, false, rfl, .ty _, .base (.int i), kit_ty (by decide +kernel), _, rfl, ?_⟩
        exact iteF (hN _ sRefl (by rw [hx']; rfl))
      · refine ⟨_, rfl, _, _, _, _, true, rfl, .ty _, .base (.bl c), kit_ty (by decide +kernel), _, rfl, ?_⟩
        refine iteF ⟨_, rfl, _, _, _, _, true, rfl, .ty _, .base (.bl c), kit_ty (by decide +kernel), _, rfl, ?_⟩
        exact iteT (hK _ _ sRefl (by rw [hx']; rfl))
    obtain ⟨m, em, hm⟩ := filt_ones (fun k => if isBl (xs.getD k .non) = true then some (.int 1) else none) (fun k => by
      by_cases z : isBl (xs.getD k .non) = true
      · exact .inr (if_pos z)
      · exact .inl (if_neg z)) xs.length
    rw [em] at hl'
    refine ⟨Nat.zero_le _, fun D2 hD2 => ?_⟩
    have s2 := same_upd (o := .lst []) hD2
    refine ⟨_, _, .lst (SqL.of (s2 _ _ hl')) (dpAllI _), .lst (SqL.of upd_same) .nil, shapedL _, shapedL [], _, rfl, ?_⟩
    have sm2 : Same H (upd H' D2 (.lst [])) := fun c u e => s2 _ _ (sm _ _ e)
    show (if (!PyData.eqvAll ((List.replicate m (1 : Int)).map PyData.int) (([] : List Int).map PyData.int)) = true then _ else _)
    rw [eqvAllI]
    by_cases m0 : m = 0
    case neg =>
      rw [decide_eq_false (by
        intro z
        have := congrArg List.length z
        simp at this
        exact m0 this)]
      refine iteT (q false _ ?_ sm2)
      simp
      rintro ⟨l, rfl, c⟩
      refine m0 (hm.mpr fun k hk => ?_)
      rw [List.length_map] at hk
      rw [getD_of (l := l.map vn) (show (l.map vn)[k]? = some (vn l[k]) by rw [List.getElem?_map, List.getElem?_eq_getElem hk]; rfl)]
      rfl
    rw [decide_eq_true (by rw [m0]; rfl)]
    refine iteF ?_
    obtain ⟨is, rfl⟩ := ints_all xs fun v hv => by
      rcases hi v hv with z | ⟨c, rfl⟩
      · exact z
      · obtain ⟨k, hk⟩ := List.mem_iff_getElem?.mp hv
        have z := hm.mp m0 k (List.getElem?_eq_some_iff.mp hk).1
        rw [getD_of hk] at z
        cases z
    rw [List.length_map] at hl hz
    have hbs := sm2 _ _ hb
    have has := sm2 _ _ ha
    generalize upd H' D2 (.lst []) = H3 at s2 sm2 hbs has ⊢
    refine ⟨_, rfl, b, is, rfl, SqT.of hbs, by omega, fun ns' p hp hs hn' => ?_⟩
    have s4 := same_upd (o := .lst (ns'.map V.int)) hn'
    refine ⟨_, rfl, a, _, rfl, .inr (SqT.of (s4 _ _ has)), _, rfl, by rw [List.length_map, lp]; exact RgOk.n (by omega), fun p2 hn2 => ?_⟩
    have hpp : p ≠ p2 := fun z => by rw [z, upd_same] at hn2; cases hn2
    rw [List.length_map, lp, rgN]
    have s5 := same_upd (o := .lst ((List.range rs.length).map vn)) hn2
    refine ⟨_, _, .lst (SqL.of (s5 _ _ upd_same)) (dpAllI ns'), .lst (SqL.of upd_same) (dpAllN _), shapedL _, by rw [intN]; exact shapedL _, _, rfl, ?_⟩
    show (if (!PyData.eqvAll (ns'.map PyData.int) ((List.range rs.length).map fun (i : Nat) => PyData.int i)) = true then _ else _)
    rw [intN, eqvAllI]
    have sm5 : Same H (upd (upd H3 p (.lst (ns'.map V.int))) p2 (.lst ((List.range rs.length).map vn))) := fun c u e => s5 _ _ (s4 _ _ (sm2 _ _ e))
    by_cases hr1 : ns' = (List.range rs.length).map fun (i : Nat) => (i : Int)
    case neg =>
      rw [decide_eq_false hr1]
      refine iteT (q false _ ?_ sm5)
      simp
      rintro ⟨l, e, c⟩
      refine hr1 (sorted_range (hp.trans ?_) hs)
      have : is = l.map fun (i : Nat) => (i : Int) := by
        have e2 : is.map V.int = (l.map fun (i : Nat) => (i : Int)).map V.int := by rw [e, List.map_map]; rfl
        exact (List.map_inj_right fun _ _ z => V.int.inj z).mp e2
      rw [this]
      exact c.1.map _
    rw [decide_eq_true hr1]
    refine iteF ?_
    obtain ⟨l, rfl⟩ : ∃ l : List Nat, is = l.map fun (i : Nat) => (i : Int) := by
      refine ⟨is.map Int.toNat, ?_⟩
      rw [List.map_map]
      refine (List.map_id _).symm.trans (List.map_congr_left fun i h => ?_)
      have := hp.mem_iff.mpr h
      rw [hr1] at this
      obtain ⟨j, _, rfl⟩ := List.mem_map.mp this
      rfl
    have hpl : l.Perm (List.range rs.length) := perm_cast (hp.symm.trans (by rw [hr1]))
    have evl : (l.map fun (i : Nat) => (i : Int)).map V.int = l.map vn := by rw [List.map_map]; rfl
    rw [evl] at hbs hb q
    have pl := perm_lt hpl
    have hb5 := sm5 _ _ hb
    have ha5 := sm5 _ _ ha
    have hE5 := eachM hE sm5
    generalize upd (upd H3 p (.lst (ns'.map V.int))) p2 (.lst ((List.range rs.length).map vn)) = H6 at s5 sm5 hb5 ha5 hE5 ⊢
    refine ⟨_, rfl, b, _, rfl, SqT.of hb5, fun D3 hD3 => ?_⟩
    refine lc_gen walk_enumT (by rw [List.length_map]; omega) hD3 (fun H' s' => SqT.of (s' _ _ hb5)) (fun _ k y => y = vn ((rs.getD k []).getD (l.getD k 0) 0)) (fun _ _ _ _ _ h => h) (fun k x H7 H8 acc Kf hk s7 hacc hy hKf => ?_) (fun ys H7 s7 hy ly hr' => ?_)
    · obtain ⟨T1, x1, x2, rfl, hT1, rfl, e1, e2⟩ := hy
      cases e1
      rw [List.length_map] at hk
      have e3 : (l.map vn)[k]? = some x2 := e2
      rw [List.getElem?_map, List.getElem?_eq_getElem hk] at e3
      cases e3
      have s8 := same_upd (o := .tup [V.int (k : Nat), vn l[k]]) hT1
      have hrk : rs[k]? = some (rs[k]'(by omega)) := List.getElem?_eq_getElem _
      obtain ⟨q1, hq1, t1⟩ := tupR_get (eachM hE5 fun c u e => s8 _ _ (s7 _ _ e)) hrk
      have pr := perm_lt (L.row _ (List.mem_of_getElem? hrk))
      have hlt := pl.2 _ (List.getElem_mem hk)
      refine ⟨T1, _, rfl, SqT.of upd_same, rfl, _, _, rfl, _, _, rfl, rfl, ?_⟩
      refine ⟨rfl, _, rfl, _, rfl, a, _, _, .ref q1, rfl, rfl, SqT.of (s8 _ _ (s7 _ _ ha5)), hq1, _, rfl, q1, _, _, _, rfl, rfl, SqT.of t1, atN (by omega), hKf _ _ s8 ?_⟩
      rw [getD_of hrk, getD_of (List.getElem?_eq_getElem hk)]
    · have e2 : ys = ((img rs l).map fun (i : Nat) => (i : Int)).map V.int := by
        rw [ints_of ys (fun k => (rs.getD k []).getD (l.getD k 0) 0) hr', ly, List.length_map, pl.1, img_eq rs l pl.1, List.map_map]
        rfl
      have li : (img rs l).length = rs.length := by unfold img; rw [List.length_map, List.length_zip]; omega
      refine ⟨D3, _, rfl, SqL.of (by rw [hy, e2]), by rw [List.length_map]; omega, fun _ => ?_⟩
      refine ⟨_, rfl, a, _, rfl, .inr (SqT.of (s7 _ _ ha5)), rfl, q _ _ ?_ fun c u e => s7 _ _ (sm5 _ _ e)⟩
      rw [List.length_map, lp]
      have eb : decide (vn (metN ((img rs l).map fun (i : Nat) => (i : Int))) = V.int ((rs.length : Nat) : Int)) = decide (metN ((img rs l).map fun (i : Nat) => (i : Int)) = rs.length) := dec_vn _ _
      rw [eb, decide_eq_true_iff]
      have ml := metN_len ((img rs l).map fun (i : Nat) => (i : Int))
      rw [List.length_map, li, nodup_cast] at ml
      rw [ml]
      constructor
      · exact fun z => ⟨l, rfl, hpl, z⟩
      · rintro ⟨m', e', c'⟩
        have := vns_inj e'
        subst this
        exact c'.2
end
end K61

set_option Elab.async false
set_option maxRecDepth 100000
set_option maxHeartbeats 4000000
namespace K61
open PySem PySem.Spec PyProof.Rows L2
section
variable {P : Program} {w : World} {K : PySem.W.Frag} {mg : Str → Option Value} {base : Heap}
/-- what is no list stays -/
theorem Urn.keep {u b : Addr} {H H' : Hp} {v : HO} (hU : Urn H u) (sx : SameX u H H') (e : H b = some v) (nv : ∀ l, v ≠ .lst l) : H' b = some v := sx _ _ e fun z => by
  obtain ⟨x, y, w, h⟩ := hU
  rw [z, h] at e
  exact nv _ (Option.some.inj e).symm
theorem Urn.tupN {u b : Addr} {H H' : Hp} {l : List Nat} (hU : Urn H u) (sx : SameX u H H') (h : TupN H b l) : TupN H' b l := hU.keep sx h fun _ z => nomatch z
theorem Urn.tupR {u b : Addr} {H H' : Hp} {rs : Rows} (hU : Urn H u) (sx : SameX u H H') (h : TupR H b rs) : TupR H' b rs :=
  let ⟨ps, h1, h2⟩ := h
  ⟨ps, hU.keep sx h1 (fun _ z => nomatch z), h2.imp fun _ _ _ t => hU.tupN sx t⟩
theorem Urn.slt {u a C dx : Addr} {H H' : Hp} {vs : List (Option V)} (hU : Urn H u) (sx : SameX u H H') (h : SlX.Slt H a C dx vs) : SlX.Slt H' a C dx vs := by
  rcases h with ⟨h1, h2⟩ | ⟨h1, h2⟩
  · exact .inl ⟨hU.keep sx h1 fun _ z => (nomatch z), h2⟩
  · exact .inr ⟨hU.keep sx h1 fun _ z => (by unfold SlX.SlO at z; cases z), hU.keep sx h2 fun _ z => (nomatch z)⟩
theorem Urn.tab {K : PySem.W.Frag} {u a : Addr} {H H' : Hp} {rs : Rows} (hU : Urn H u) (sx : SameX u H H') (h : TabAt K H a rs) : TabAt K H' a rs :=
  let ⟨dx, p1, p2, r, h1, h2⟩ := h
  ⟨dx, p1, p2, r, hU.slt sx h1, hU.tupR sx h2⟩
theorem Urn.loop {K : PySem.W.Frag} {u a : Addr} {H H' : Hp} {rs : Rows} (hU : Urn H u) (sx : SameX u H H') (h : LoopAt K H a rs) : LoopAt K H' a rs :=
  let ⟨dx, m, r, t, h1, h2, h3, h4⟩ := h
  ⟨dx, m, r, t, hU.slt sx h1, hU.tupN sx h2, hU.tupR sx h3, hU.tab sx h4⟩
theorem catR2 {K : PySem.W.Frag} {a b : Addr} {xs ys : List V} {H : Hp} {Q : VK} (ha : H a = some (.tup xs)) (hb : H b = some (.tup ys)) (hz : xs.length + ys.length ≤ sizeLine)
    (h : ∀ p H', Same H H' → H' p = some (.tup (xs ++ ys)) → Q (.ref p) H') : rCatA K (.ref a) (.ref b) H Q :=
  ⟨a, b, xs, ys, rfl, rfl, SqT.of ha, SqT.of hb, hz, fun z => h b H sRefl (by rw [z, List.nil_append]; exact hb), fun _ z => h a H sRefl (by rw [z, List.append_nil]; exact ha), fun _ _ p hp => h p _ (same_upd hp) upd_same⟩
theorem np {σ : L2.St} {H : Hp} {Q : Option Int → Hp → Prop} (h : Q none H) : tNoPart σ H Q := h
/-- t[1:] -/
theorem sl1 {K : PySem.W.Frag} {a : Addr} {xs : List V} {H : Hp} {Q : VK} (ha : H a = some (.tup xs)) (hx : xs ≠ []) (h : ∀ p H', Same H H' → H' p = some (.tup (xs.drop 1)) → Q (.ref p) H') : rSlA K (.ref a) (some 1) none H Q := by
  refine ⟨a, xs, rfl, SqT.of ha, fun z => ?_, fun _ p hp => ?_⟩
  · exfalso
    have e : HT.sIx xs.length 0 (some 1) = min 1 xs.length := HT.sIx_nat _ 0 1
    have : xs.length ≠ 0 := fun w => hx (List.eq_nil_of_length_eq_zero w)
    rw [e] at z
    omega
  · have := h p (upd H p (.tup (cutV xs (some 1) none))) (same_upd hp) (by rw [upd_same, cut1])
    exact this
theorem cut01 (xs : List V) : cutV xs none (some 1) = xs.take 1 := by
  unfold cutV
  have e : HT.sIx xs.length xs.length (some 1) = min 1 xs.length := HT.sIx_nat xs.length xs.length 1
  rw [e, HT.sIx_none]
  cases xs with
  | nil => rfl
  | cons a l =>
    have : min 1 (a :: l).length = 1 := by rw [List.length_cons]; omega
    rw [this]
    rfl
/-- t[:1] -/
theorem sl2 {K : PySem.W.Frag} {a : Addr} {xs : List V} {H : Hp} {Q : VK} (ha : H a = some (.tup xs)) (hx : xs ≠ []) (h : ∀ p H', Same H H' → H' p = some (.tup (xs.take 1)) → Q (.ref p) H') : rSlA K (.ref a) none (some 1) H Q := by
  refine ⟨a, xs, rfl, SqT.of ha, fun z => ?_, fun _ p hp => ?_⟩
  · have e : HT.sIx xs.length xs.length (some 1) = min 1 xs.length := HT.sIx_nat _ _ 1
    have : xs.length ≠ 0 := fun w => hx (List.eq_nil_of_length_eq_zero w)
    rw [e] at z
    exact h a H sRefl (by rw [List.take_of_length_le (by omega)]; exact ha)
  · have := h p (upd H p (.tup (cutV xs none (some 1)))) (same_upd hp) (by rw [upd_same, cut01])
    exact this
theorem repR {K : PySem.W.Frag} {a : Addr} {xs : List V} {k : Int} {H : Hp} {Q : VK} (ha : H a = some (.tup xs)) (hx : xs ≠ []) (h1 : 1 ≤ k) (h2 : k ≤ 1000) (hz : xs.length ≤ 1000)
    (h : ∀ p H', Same H H' → H' p = some (.tup (List.replicate k.toNat xs).flatten) → Q (.ref p) H') : rRepA K (.ref a) (.int k) H Q :=
  ⟨a, k, xs, rfl, rfl, SqT.of ha, hx, h1, h2, hz, fun z => h a H sRefl (by rw [z, ha]; simp), fun _ p hp => h p _ (same_upd hp) upd_same⟩
def spNear (K : PySem.W.Frag) : Sp := fun vs H Q _ => ∃ (u L a b : Addr) (rs : Rows) (l : List Nat), vs = [.ref u, .ref L, .ref a, .ref b] ∧ Urn H u ∧ LoopAt K H L rs ∧ TupR H a rs ∧ Lat rs ∧ TupN H b l ∧ l.length = rs.length ∧
  ∀ H', SameX u H H' → Urn H' u → Q (.bl true) H'
theorem sc_law_near_right : FnScope ["_law_urn_here", "_law_loop", "_law_rows", "_law_begun", "_law_bent", "_law_at", "_law_to", "_law_some", "_law_value", "_law_due"] ["_law_urn_here", "_law_loop", "_law_rows", "_law_begun"] (defScope (top 73)) := ⟨rfl, rfl, rfl, by decide +kernel, rfl, by decide +kernel, by decide +kernel⟩
theorem ok_law_near_right (T : Txt K mg) (c_law_draw : Cal P w K mg base 2 "_law_draw" spDraw) (c_law_is_complete : Cal P w K mg base 1 "_law_is_complete" (spLCross K)) (c_is_complete_mapping : Cal P w K mg base 6 "is_complete_mapping" (spCrossL K)) (c_is_transversal : Cal P w K mg base 6 "is_transversal" (spCrossT K)) (m_Loop_table : FnR P w K mg base CX0 2 (pgA K "Loop" "table") (spLoopTab K)) : Cal P w K mg base (7) "_law_near_right" (spNear K) := by
  obtain ⟨fd, F⟩ := T.f_law_near_right
  refine cal_of T.g_law_near_right F sc_law_near_right (fun vs H Q E h => by first | (obtain ⟨_, rfl, _⟩ := h; rfl) | (obtain ⟨_, _, rfl, _⟩ := h; rfl) | (obtain ⟨_, _, _, rfl, _⟩ := h; rfl) | (obtain ⟨_, _, _, _, rfl, _⟩ := h; rfl) | (obtain ⟨_, _, _, _, _, rfl, _⟩ := h; rfl) | (obtain ⟨_, _, _, _, _, _, rfl, _⟩ := h; rfl) | (obtain ⟨_, _, _, _, _, _, _, rfl, _⟩ := h; rfl) | (obtain ⟨_, _, _, _, _, _, _, _, rfl, _⟩ := h; rfl)) (fun _ _ _ _ _ _ us hl => match us, hl with | [_, _, _, _], _ => rfl) (fun cdv A outer s H vs Q E hr h => ?_)
  obtain ⟨u, L, a, b, rs, l, rfl, hU, hL, ⟨ps, ha, hE⟩, LT, hb, ll, q⟩ := h
  have hz : sizeLine = 16777216 := sizeLine_eq
  have h12 := LT.le
  have hpos := LT.pos
  have lp := hE.length
  have hbv : (l.map vn) ≠ [] := fun z => by have := congrArg List.length z; simp at this; rw [this] at ll; simp at ll; omega
  refine ⟨_, (pss_cons (ps_par3 (i := 4) (j := 5) (l := 6) rfl sc_law_near_right.nd rfl rfl rfl (by decide) (by decide) (by decide) rfl rfl rfl (pa_cons (pe_callTy call_list_of (by rfl) T.z_list (by decide +kernel) (pa_cons (pv 3) pa_nil)) (pa_cons (pe_cal c_law_draw (hr.mono (by decide)) (pa_cons (pv 0) (pa_cons (pe_callB (lenK (K := K) rfl) (by rfl) T.z_len (by decide +kernel) (pa_cons (pv 2) pa_nil)) pa_nil))) (pa_cons (pe_cal c_law_draw (hr.mono (by decide)) (pa_cons (pv 0) (pa_cons (pe_callB (lenK (K := K) rfl) (by rfl) T.z_len (by decide +kernel) (pa_cons (pv 2) pa_nil)) pa_nil))) pa_nil))) (by rfl))
      (pss_cons (ps_asg (pe_tup (pa_cons (pe_ix (ixL (K := K) rfl) (pv 4) (pv 6) (fun _ _ => rfl)) (pa_cons (pe_ix (ixL (K := K) rfl) (pv 4) (pv 5) (fun _ _ => rfl)) pa_nil))) (pgTup (K := K) (n := 2) rfl rfl (pgs_cons (pg_sub (pv 4) (pv 5) set_list) (pgs_cons (pg_sub (pv 4) (pv 6) set_list) pgs_nil))))
      (pss_cons (ps_set (i := 7) sc_law_near_right.nd rfl (Or.inl rfl) (pe_lst (pa_cons (pv 3) (pa_cons (pe_callTy (tupOfK (K := K) rfl) (by rfl) T.z_tuple (by decide +kernel) (pa_cons (pv 4) pa_nil)) (pa_cons (pe_callTy call_list_of (by rfl) T.z_list (by decide +kernel) (pa_cons (pv 3) pa_nil)) (pa_cons (pe_slice sl_tupA (pv 3) (po_some (pe_int)) po_none) (pa_cons (pe_op op_catA (pv 3) (pe_tup (pa_cons (pe_int) pa_nil))) (pa_cons (pe_non) (pa_cons (pe_int) (pa_cons (pe_op op_repA (pe_slice sl_tupA (pv 3) po_none (po_some (pe_int))) (pe_callB (lenK (K := K) rfl) (by rfl) T.z_len (by decide +kernel) (pa_cons (pv 2) pa_nil))) pa_nil))))))))))
      (pss_cons (ps_expr (pe_bm PySem.F.plainAttrs_list PySem.F.slot_list_append PySem.F.type_list_append mt_append (pv 7) (pa_cons (pe_op op_catA (pe_tup (pa_cons (pe_bl) pa_nil)) (pe_slice sl_tupA (pv 3) (po_some (pe_int)) po_none)) pa_nil)))
      (pss_cons (ps_for PassesOwn.never rfl (piL (K := K) rfl (pv 7)) (pg_name (i := 8) sc_law_near_right.nd rfl (Or.inl rfl)) (pss_cons (ps_set (i := 9) sc_law_near_right.nd rfl (Or.inl rfl) (pe_cal c_law_is_complete (hr.mono (by decide)) (pa_cons (pv 2) (pa_cons (pv 8) pa_nil))))
      (pss_one (ps_if (PW.pt (pw_or (pt_cmpR op_ne (pe_cal c_is_complete_mapping (hr.mono (by decide)) (pa_cons (pv 1) (pa_cons (pv 8) pa_nil))) (pv 9) (nomark _)) (pw_or1 (pt_cmpR op_ne (pe_cal c_is_transversal (hr.mono (by decide)) (pa_cons (SlX.pe_propSl (E := E0) (pv 1) T.s_Loop T.p_Loop_table.at_ T.p_Loop_table.get T.p_Loop_table.tk T.p_Loop_table.rc m_Loop_table (hr.mono (by decide)) (fun _ _ _ _ h => h.elim)) (pa_cons (pv 8) pa_nil))) (pv 9) (nomark _))))) (pss_one (ps_ret (pe_bl))) pss_nil))))
      (pss_one (ps_ret (pe_bl)))))))), ?_⟩
  refine ⟨_, rfl, b, _, rfl, .inr (SqT.of hb), fun D hD => ?_⟩
  have s1 := same_upd (o := .lst (l.map vn)) hD
  have hD1 : upd H D (.lst (l.map vn)) D = some (.lst (l.map vn)) := upd_same
  have nDu : D ≠ u := fun z => by obtain ⟨_, _, _, e⟩ := hU; rw [z, e] at hD; cases hD
  have hU1 := hU.mono s1
  generalize upd H D (.lst (l.map vn)) = H1 at s1 hD1 hU1 ⊢
  refine ⟨_, rfl, _, rfl, a, _, rfl, .inr (SqT.of (s1 _ _ ha)), u, rs.length, by rw [List.length_map, lp]; rfl, hU1, by omega, by omega, fun x H2 hx sx2 hU2 => ?_⟩
  have sxH2 : SameX u H H2 := fun c v e n => sx2 _ _ (s1 _ _ e) n
  refine ⟨_, rfl, _, rfl, a, _, rfl, .inr (SqT.of (hU.keep sxH2 ha fun _ z => nomatch z)), u, rs.length, by rw [List.length_map, lp]; rfl, hU2, by omega, by omega, fun y H3 hy sx3 hU3 => ?_⟩
  have sxH3 : SameX u H H3 := sxH2.trans sx3
  have hD3 := sx3 _ _ (sx2 _ _ hD1 nDu) nDu
  refine ⟨_, _, _, rfl, ?_⟩
  have hx' : x < (l.map vn).length := by rw [List.length_map]; omega
  have hy' : y < (l.map vn).length := by rw [List.length_map]; omega
  refine ⟨_, rfl, _, rfl, D, _, _, _, rfl, rfl, SqL.of hD3, atN (by omega), _, rfl, _, rfl, D, _, _, _, rfl, rfl, SqL.of hD3, atN (by omega), (by decide : 2 ≤ sizeLine), fun T0 hT0 => ?_⟩
  have s4 := same_upd (o := .tup [vn (l.getD y 0), vn (l.getD x 0)]) hT0
  have hT04 : upd H3 T0 (.tup [vn (l.getD y 0), vn (l.getD x 0)]) T0 = some (.tup [vn (l.getD y 0), vn (l.getD x 0)]) := upd_same
  have hD4 := s4 _ _ hD3
  have hU4 := hU3.mono s4
  have sxH4 : SameX u H (upd H3 T0 (.tup [vn (l.getD y 0), vn (l.getD x 0)])) := fun c v e n => s4 _ _ (sxH3 _ _ e n)
  generalize upd H3 T0 (.tup [vn (l.getD y 0), vn (l.getD x 0)]) = H4 at s4 hT04 hD4 hU4 sxH4 ⊢
  refine ⟨T0, _, rfl, SqT.of hT04, rfl, _, _, rfl, _, rfl, _, rfl, D, _, _, x, rfl, rfl, hD4, ?_, _, _, rfl, _, rfl, _, rfl, D, _, _, y, rfl, rfl, upd_same, ?_, rfl, ?_⟩
  · unfold ixN
    rw [if_pos (by omega), if_pos (by omega), Int.toNat_natCast]
  · unfold ixN
    rw [if_pos (by omega), if_pos (by rw [List.length_set]; omega), Int.toNat_natCast]
  obtain ⟨l5, hl5, ll5⟩ : ∃ l5 : List Nat, ((l.map vn).set x (vn (l.getD y 0))).set y (vn (l.getD x 0)) = l5.map vn ∧ l5.length = rs.length := ⟨(l.set x (l.getD y 0)).set y (l.getD x 0), by rw [List.map_set, List.map_set], by rw [List.length_set, List.length_set, ll]⟩
  have hD5 : upd (upd H4 D (.lst ((l.map vn).set x (vn (l.getD y 0))))) D (.lst (((l.map vn).set x (vn (l.getD y 0))).set y (vn (l.getD x 0)))) D = some (.lst (l5.map vn)) := by rw [upd_same, hl5]
  have sxH5 : SameX u H (upd (upd H4 D (.lst ((l.map vn).set x (vn (l.getD y 0))))) D (.lst (((l.map vn).set x (vn (l.getD y 0))).set y (vn (l.getD x 0))))) := fun c v e n => by
    have : c ≠ D := fun z => by rw [z, hD] at e; cases e
    rw [upd_ne this, upd_ne this]
    exact sxH4 _ _ e n
  have hU5 : Urn (upd (upd H4 D (.lst ((l.map vn).set x (vn (l.getD y 0))))) D (.lst (((l.map vn).set x (vn (l.getD y 0))).set y (vn (l.getD x 0))))) u := by
    obtain ⟨c1, c2, c3, e⟩ := hU4
    exact ⟨c1, c2, c3, by rw [upd_ne nDu.symm, upd_ne nDu.symm]; exact e⟩
  generalize upd (upd H4 D (.lst ((l.map vn).set x (vn (l.getD y 0))))) D (.lst (((l.map vn).set x (vn (l.getD y 0))).set y (vn (l.getD x 0)))) = H5 at hD5 sxH5 hU5 ⊢
  have ha5 := hU.keep sxH5 ha fun _ z => nomatch z
  have hb5 : H5 b = some (.tup (l.map vn)) := hU.tupN sxH5 hb
  have hR5 : TupR H5 a rs := hU.tupR sxH5 ⟨ps, ha, hE⟩
  have hL5 := hU.loop sxH5 hL
  clear s4 hT04 hD4 hU4 sxH4 hl5 hD3 hT0 hU3 sxH3 sx3 hU2 sxH2 sx2 hD1 hU1 s1
  have iv : ∀ l : List Nat, ∀ v ∈ l.map vn, Itm v := fun l v h => by obtain ⟨i, _, rfl⟩ := List.mem_map.mp h; exact .inl ⟨_, rfl⟩
  -- the things that are asked
  refine ⟨_, rfl, _, rfl, D, _, rfl, .inl ⟨SqL.of hD5, fun P1 hP1 => ?_⟩⟩
  have s6 := same_upd (o := .tup (l5.map vn)) hP1
  refine ⟨_, rfl, b, _, rfl, .inr (SqT.of (s6 _ _ hb5)), fun P2 hP2 => ?_⟩
  have s7 := same_upd (o := .lst (l.map vn)) hP2
  refine ⟨_, rfl, _, rfl, ?_⟩
  refine np ?_
  refine sl1 (s7 _ _ (s6 _ _ hb5)) hbv fun P3 H8 s8 hP3 => ?_
  have r8 : Same H5 H8 := fun c v e => s8 _ _ (s7 _ _ (s6 _ _ e))
  have hP18 : H8 P1 = some (.tup (l5.map vn)) := s8 _ _ (s7 _ _ upd_same)
  have hP28 : H8 P2 = some (.lst (l.map vn)) := s8 _ _ upd_same
  clear s6 s7 s8
  refine ⟨_, rfl, (by decide : 1 ≤ sizeLine), fun P4 hP4 => ?_⟩
  have s9 := same_upd (o := .tup [vn 0]) hP4
  refine catR2 (s9 _ _ (r8 _ _ hb5)) upd_same (by rw [List.length_map]; show _ + 1 ≤ _; omega) fun P5 H10 s10 hP5 => ?_
  have r10 : Same H8 H10 := fun c v e => s10 _ _ (s9 _ _ e)
  refine ⟨_, rfl, ?_⟩
  refine np ?_
  refine ⟨_, rfl, ?_⟩
  refine sl2 (r10 _ _ (r8 _ _ hb5)) hbv fun P6 H11 s11 hP6 => ?_
  have r11 : Same H5 H11 := fun c v e => s11 _ _ (r10 _ _ (r8 _ _ e))
  refine ⟨_, rfl, a, _, rfl, .inr (SqT.of (r11 _ _ ha5)), ?_⟩
  refine repR hP6 (fun z => hbv (by rcases List.take_eq_nil_iff.mp z with z | z; cases z; exact z)) (by rw [List.length_map]; omega) (by rw [List.length_map]; omega) (by rw [List.length_take]; omega) fun P7 H12 s12 hP7 => ?_
  refine ⟨(by decide : 8 ≤ sizeLine), fun LS hLS => ?_⟩
  have s13 := same_upd (o := .lst [.ref b, .ref P1, .ref P2, .ref P3, .ref P5, .non, .int 3, .ref P7]) hLS
  have hLS13 : upd H12 LS (.lst [.ref b, .ref P1, .ref P2, .ref P3, .ref P5, .non, .int 3, .ref P7]) LS = some (.lst [.ref b, .ref P1, .ref P2, .ref P3, .ref P5, .non, .int 3, .ref P7]) := upd_same
  have r13 : Same H5 (upd H12 LS (.lst [.ref b, .ref P1, .ref P2, .ref P3, .ref P5, .non, .int 3, .ref P7])) := fun c v e => s13 _ _ (s12 _ _ (r11 _ _ e))
  have hLS5 : H5 LS = none := by
    have : Same H5 H12 := fun c v e => s12 _ _ (r11 _ _ e)
    exact this.free hLS
  have t1 := s13 _ _ (s12 _ _ (s11 _ _ (r10 _ _ hP18)))
  have t2 := s13 _ _ (s12 _ _ (s11 _ _ (r10 _ _ hP28)))
  have t3 := s13 _ _ (s12 _ _ (s11 _ _ (r10 _ _ hP3)))
  have t5 := s13 _ _ (s12 _ _ (s11 _ _ hP5))
  have t7 := s13 _ _ hP7
  generalize upd H12 LS (.lst [.ref b, .ref P1, .ref P2, .ref P3, .ref P5, .non, .int 3, .ref P7]) = H13 at s13 hLS13 r13 t1 t2 t3 t5 t7 ⊢
  refine ⟨_, rfl, tyL hLS13, (by decide : 1 ≤ sizeLine), fun P8 hP8 => ?_⟩
  have s14 := same_upd (o := .tup [V.bl false]) hP8
  refine ⟨_, rfl, _, rfl, ?_⟩
  refine np ?_
  refine sl1 (s14 _ _ (r13 _ _ hb5)) hbv fun P9 H15 s15 hP9 => ?_
  refine catR2 (s15 _ _ upd_same) hP9 (by rw [List.length_drop, List.length_map]; show 1 + _ ≤ _; omega) fun P10 H16 s16 hP10 => ?_
  have r16 : Same H13 H16 := fun c v e => s16 _ _ (s15 _ _ (s14 _ _ e))
  refine ⟨LS, _, _, rfl, rfl, r16 _ _ hLS13, by show 8 < sizeLine; omega, ?_⟩
  have sU : SameX LS H16 (upd H16 LS (.lst ([.ref b, .ref P1, .ref P2, .ref P3, .ref P5, .non, .int 3, .ref P7] ++ [.ref P10]))) := SameX.refl.upd
  have r17 : Same H5 (upd H16 LS (.lst ([.ref b, .ref P1, .ref P2, .ref P3, .ref P5, .non, .int 3, .ref P7] ++ [.ref P10]))) := Same.mut (fun c v e => r16 _ _ (r13 _ _ e)) hLS5
  have ne : ∀ {c : Addr} {v : HO}, H13 c = some v → (v ≠ .lst [.ref b, .ref P1, .ref P2, .ref P3, .ref P5, .non, .int 3, .ref P7]) → c ≠ LS := fun e n z => by rw [z, hLS13] at e; exact n (Option.some.inj e).symm
  have u1 := sU _ _ (r16 _ _ t1) (ne t1 fun z => nomatch z)
  have u2 := sU _ _ (r16 _ _ t2) (ne t2 fun z => by
    have := congrArg (fun o => match o with | HO.lst (.ref _ :: _) => true | _ => false) z
    cases hl : l with
    | nil => rw [hl] at hbv; exact hbv rfl
    | cons i r => rw [hl] at this; cases this)
  have u3 := sU _ _ (r16 _ _ t3) (ne t3 fun z => nomatch z)
  have u5 := sU _ _ (r16 _ _ t5) (ne t5 fun z => nomatch z)
  have u7 := sU _ _ (r16 _ _ t7) (ne t7 fun z => nomatch z)
  have u10 := sU _ _ hP10 (fun z => by rw [z, r16 _ _ hLS13] at hP10; cases hP10)
  have hLS17 : upd H16 LS (.lst ([.ref b, .ref P1, .ref P2, .ref P3, .ref P5, .non, .int 3, .ref P7] ++ [.ref P10])) LS = some (.lst ([.ref b, .ref P1, .ref P2, .ref P3, .ref P5, .non, .int 3, .ref P7] ++ [.ref P10])) := upd_same
  generalize upd H16 LS (.lst ([.ref b, .ref P1, .ref P2, .ref P3, .ref P5, .non, .int 3, .ref P7] ++ [.ref P10])) = H17 at sU r17 u1 u2 u3 u5 u7 u10 hLS17 ⊢
  have hAsk : ∀ (k : Nat) (v : V), ([V.ref b, .ref P1, .ref P2, .ref P3, .ref P5, .non, .int 3, .ref P7] ++ [.ref P10])[k]? = some v → ∃ xs, Ask K H17 v xs := fun k v hk => by
    have i1 : ∀ v ∈ (l.map vn).drop 1, Itm v := fun v hv => iv l v (List.mem_of_mem_drop hv)
    have := List.mem_of_getElem? hk
    simp only [List.cons_append, List.nil_append, List.mem_cons, List.not_mem_nil, or_false] at this
    rcases this with rfl | rfl | rfl | rfl | rfl | rfl | rfl | rfl | rfl
    · exact ⟨_, .tup (r17 _ _ hb5) (iv l) (by rw [List.length_map]; omega)⟩
    · exact ⟨_, .tup u1 (iv l5) (by rw [List.length_map]; omega)⟩
    · exact ⟨_, .lst u2⟩
    · exact ⟨_, .tup u3 i1 (by rw [List.length_drop, List.length_map]; omega)⟩
    · refine ⟨_, .tup u5 (fun v hv => ?_) (by rw [List.length_append, List.length_map]; show _ + 1 ≤ _; omega)⟩
      rcases List.mem_append.mp hv with z | z
      · exact iv l v z
      · exact iv [0] v z
    · exact ⟨_, .non⟩
    · exact ⟨_, .int 3⟩
    · refine ⟨_, .tup u7 (fun v hv => ?_) ?_⟩
      · obtain ⟨w, hw, hv⟩ := List.mem_flatten.mp hv
        rw [List.eq_of_mem_replicate hw] at hv
        exact iv l v (List.mem_of_mem_take hv)
      · rw [List.length_flatten, List.map_replicate, List.sum_replicate_nat, List.length_map, lp, Int.toNat_natCast, List.length_take, List.length_map]
        have : min 1 l.length = 1 := by omega
        rw [this]
        omega
    · refine ⟨_, .tup u10 (fun v hv => ?_) (by rw [List.length_append, List.length_drop, List.length_map]; show 1 + _ ≤ _; omega)⟩
      rcases List.mem_append.mp hv with z | z
      · rw [List.mem_singleton.mp z]; exact .inr ⟨_, rfl⟩
      · exact i1 v z
  have hR17 := hR5.mono r17
  have hL17 := hL5.mono r17
  have hU17 := hU5.mono r17
  refine ⟨_, rfl, LS, rfl, ⟨_, SqL.of hLS17⟩, ?_⟩
  refine for_it walk_list (fun i σ H' => (∃ p r, σ = [some (.ref u), some (.ref L), some (.ref a), some (.ref b), some (.ref D), some (vn x), some (vn y), some (.ref LS), p, r]) ∧ Same H17 H') ⟨⟨_, _, rfl⟩, sRefl⟩ (fun i σ H' _ p => SqL.of (p.2 _ _ hLS17)) (fun i v σ H18 H19 hi p y => ?_) (fun σ H' p => ?_)
  · obtain ⟨⟨_, _, rfl⟩, sm⟩ := p
    obtain ⟨rfl, hv⟩ := y
    obtain ⟨xs, hA⟩ := hAsk i v hv
    refine ⟨_, rfl, _, rfl, a, rs, v, xs, rfl, hR17.mono sm, LT, hA.mono sm, fun b1 H20 hb1 s20 => ?_⟩
    have sm20 : Same H17 H20 := fun c v e => s20 _ _ (sm _ _ e)
    refine ⟨_, rfl, _, rfl, L, rs, v, xs, rfl, hL17.mono sm20, LT, hA.mono sm20, fun b2 H21 hb2 s21 => ?_⟩
    have sm21 : Same H17 H21 := fun c v e => s21 _ _ (sm20 _ _ e)
    have e12 : b2 = b1 := Bool.eq_iff_iff.mpr (hb2.trans hb1.symm)
    subst e12
    refine ⟨_, rfl, rfl, _, rfl, ?_⟩
    rw [decide_eq_true rfl]
    refine iteF ?_
    have hL21 := hL17.mono sm21
    have hL21' := hL21
    obtain ⟨dx, m, r, t, hS, _⟩ := hL21'
    refine ⟨_, rfl, L, dx, _, rfl, hS, L, rs, rfl, hL21, fun t2 ht2 => ?_⟩
    refine ⟨_, rfl, t2, rs, v, xs, rfl, ht2, LT, hA.mono sm21, fun b3 H22 hb3 s22 => ?_⟩
    have e13 : b3 = b2 := Bool.eq_iff_iff.mpr (hb3.trans hb1.symm)
    subst e13
    refine ⟨_, rfl, rfl, _, rfl, ?_⟩
    rw [decide_eq_true rfl]
    exact iteF ⟨⟨_, _, rfl⟩, fun c v e => s22 _ _ (sm21 _ _ e)⟩
  · obtain ⟨⟨_, _, rfl⟩, sm⟩ := p
    exact q H' (fun c v e n => sm _ _ (r17 _ _ (sxH5 _ _ e n))) (hU17.mono sm)
end
end K61

set_option Elab.async false
set_option maxRecDepth 100000
set_option maxHeartbeats 4000000
namespace K61
open PySem PySem.Spec PyProof.Rows L2
section
variable {P : Program} {w : World} {K : PySem.W.Frag} {mg : Str → Option Value} {base : Heap}
/-- a cell of the script, or a number that stands for it -/
def spUrn (K : PySem.W.Frag) : Sp := fun vs H Q _ => ∃ (l : Addr) (ns : List Int) (j : Nat), vs = [.ref l, vn j] ∧ SqL K H l (ns.map V.int) ∧ j ≤ 1000 ∧ ns.length ≤ 1000 ∧ ∀ u H', Same H H' → H u = none → Urn H' u → Q (.ref u) H'
theorem bits58 : (Builtin.Int.intBits ((10 : Int) ^ (58 : Int).toNat) : Int) * 6 ≤ 2 ^ 27 := by decide +kernel
theorem cp58 : L2.CPow 10 58 := ⟨by decide, by decide, by decide⟩
theorem cp17 : L2.CPow 10 17 := ⟨by decide, by decide, by decide⟩
theorem pos58 : (0 : Int) < ((10 : Int) ^ (58 : Int).toNat) ^ (6 : Int).toNat := by decide +kernel
theorem sc_law_urn : FnScope ["_law_script", "_law_spot", "_law_cell", "_law_great", "_law_seed"] ["_law_script", "_law_spot"] (defScope (top 62)) := ⟨rfl, rfl, rfl, by decide +kernel, rfl, by decide +kernel, by decide +kernel⟩
theorem ok_law_urn (T : Txt K mg)  : Cal P w K mg base (1) "_law_urn" (spUrn K) := by
  obtain ⟨fd, F⟩ := T.f_law_urn
  refine cal_of T.g_law_urn F sc_law_urn (fun vs H Q E h => by first | (obtain ⟨_, rfl, _⟩ := h; rfl) | (obtain ⟨_, _, rfl, _⟩ := h; rfl) | (obtain ⟨_, _, _, rfl, _⟩ := h; rfl) | (obtain ⟨_, _, _, _, rfl, _⟩ := h; rfl) | (obtain ⟨_, _, _, _, _, rfl, _⟩ := h; rfl) | (obtain ⟨_, _, _, _, _, _, rfl, _⟩ := h; rfl) | (obtain ⟨_, _, _, _, _, _, _, rfl, _⟩ := h; rfl) | (obtain ⟨_, _, _, _, _, _, _, _, rfl, _⟩ := h; rfl)) (fun _ _ _ _ _ _ us hl => match us, hl with | [_, _], _ => rfl) (fun cdv A outer s H vs Q E hr h => ?_)
  obtain ⟨l, ns, j, rfl, hl, hj, hn, q⟩ := h
  refine ⟨_, (pss_cons (ps_set (i := 2) sc_law_urn.nd rfl (Or.inl rfl) (pe_ifExp (pt_cmpR op_lt (pv 1) (pe_callB (lenK (K := K) rfl) (by rfl) T.z_len (by decide +kernel) (pa_cons (pv 0) pa_nil)) (nomark _)) (pe_ix (ixL (K := K) rfl) (pv 0) (pv 1) (fun _ _ => rfl)) (pe_op op_add (pe_op op_mul (pe_int) (pv 1)) (pe_int))))
      (pss_cons (ps_set (i := 3) sc_law_urn.nd rfl (Or.inl rfl) (pe_op op_mod (pe_callTy call_int1 (by rfl) T.z_int (by decide +kernel) (pa_cons (pe_callB call_abs (by rfl) T.z_abs (by decide +kernel) (pa_cons (pv 2) pa_nil)) pa_nil)) (pe_op op_powB (pe_op op_pow (pe_int) (pe_int)) (pe_int))))
      (pss_cons (ps_set (i := 4) sc_law_urn.nd rfl (Or.inl rfl) (pe_op op_mod (pe_callTy call_int1 (by rfl) T.z_int (by decide +kernel) (pa_cons (pe_op op_add (pe_op op_add (pe_op op_add (pe_op op_mul (pv 3) (pe_int)) (pe_op op_mul (pe_int) (pv 1))) (pe_op op_mul (pe_int) (pe_callTy call_int1 (by rfl) T.z_int (by decide +kernel) (pa_cons (pe_cmpR op_lt (pv 2) (pe_int) (nomark _)) pa_nil)))) (pe_int)) pa_nil)) (pe_int)))
      (pss_one (ps_ret (pe_lst (pa_cons (pe_callB (call_max2 rfl) (by rfl) T.z_max (by decide +kernel) (pa_cons (pe_int) (pa_cons (pe_op op_sub (pv 3) (pe_op op_pow (pe_int) (pe_int))) pa_nil))) (pa_cons (pv 4) (pa_cons (pe_int) pa_nil))))))))), ?_⟩
  refine ⟨_, rfl, _, rfl, l, _, rfl, .inl hl, _, _, rfl, rfl, _, rfl, ?_⟩
  rw [List.length_map]
  by_cases hlt : (j : Int) < (ns.length : Int)
  · rw [decide_eq_true hlt]
    refine iteT ⟨_, rfl, _, rfl, l, _, _, .int (ns[j]'(by omega)), rfl, rfl, hl, atV (by rw [List.getElem?_map, List.getElem?_eq_getElem (by omega)]; rfl), ?_⟩
    generalize ns[j]'(by omega) = c
    clear hlt
    refine ⟨_, rfl, _, rfl, .inl ⟨_, rfl, _, _, rfl, rfl, cp58, _, _, rfl, rfl, ⟨by decide, bits58⟩, _, _, rfl, rfl, pos58, ?_⟩⟩
    generalize (if c < 0 then -c else c) % ((10 : Int) ^ (58 : Int).toNat) ^ (6 : Int).toNat = g
    refine ⟨_, rfl, _, _, rfl, rfl, .inr ⟨by omega, by omega⟩, _, rfl, _, _, rfl, rfl, .inl ⟨by omega, by omega⟩, _, _, rfl, rfl, _, rfl, _, _, rfl, rfl, .inr ⟨_, rfl, _, _, rfl, rfl, .inl ⟨by omega, by omega⟩, _, _, rfl, rfl, _, _, rfl, rfl, .inl ⟨_, rfl, _, _, rfl, rfl, by omega, ?_⟩⟩⟩
    refine ⟨_, rfl, _, _, rfl, rfl, cp17, _, _, rfl, rfl, _, _, rfl, _, rfl, (by decide : 3 ≤ sizeLine), fun u hu => q u _ (same_upd hu) hu ⟨_, _, _, upd_same⟩⟩
  · rw [decide_eq_false hlt]
    refine iteF ⟨_, rfl, _, _, rfl, rfl, .inl ⟨by omega, by omega⟩, _, _, rfl, rfl, ?_⟩
    generalize ((101 : Int) * (j : Int) + 43) = c
    clear hlt
    refine ⟨_, rfl, _, rfl, .inl ⟨_, rfl, _, _, rfl, rfl, cp58, _, _, rfl, rfl, ⟨by decide, bits58⟩, _, _, rfl, rfl, pos58, ?_⟩⟩
    generalize (if c < 0 then -c else c) % ((10 : Int) ^ (58 : Int).toNat) ^ (6 : Int).toNat = g
    refine ⟨_, rfl, _, _, rfl, rfl, .inr ⟨by omega, by omega⟩, _, rfl, _, _, rfl, rfl, .inl ⟨by omega, by omega⟩, _, _, rfl, rfl, _, rfl, _, _, rfl, rfl, .inr ⟨_, rfl, _, _, rfl, rfl, .inl ⟨by omega, by omega⟩, _, _, rfl, rfl, _, _, rfl, rfl, .inl ⟨_, rfl, _, _, rfl, rfl, by omega, ?_⟩⟩⟩
    refine ⟨_, rfl, _, _, rfl, rfl, cp17, _, _, rfl, rfl, _, _, rfl, _, rfl, (by decide : 3 ≤ sizeLine), fun u hu => q u _ (same_upd hu) hu ⟨_, _, _, upd_same⟩⟩
end
end K61

set_option Elab.async false
set_option maxRecDepth 100000
set_option maxHeartbeats 4000000
namespace K61
open PySem PySem.Spec PyProof.Rows L2
section
variable {P : Program} {w : World} {K : PySem.W.Frag} {mg : Str → Option Value} {base : Heap}
/-- the tables that are drawn from -/
def baseL : List Rows := [ringL 1, ringL 2, ringL 3, ringL 4, ringL 5, ringL 6, ringL 7, ringL 8] ++ [pairsL (ringL 2) (ringL 2), turnsL 3] ++ [turnsL 4, pairsL (ringL 4) (ringL 2), pairsL (ringL 2) (ringL 2)]
/-- what a drawn table answers -/
structure GoodR (rs : Rows) : Prop where
  grp : Grp rs
  has : barM rs = false → HasX rs
  no : barM rs = true → rs.length < 8 → ¬ HasX rs
  one : barM rs = true → 2 ≤ rs.length ∧ 1 < share rs.length ∧ ∃ Iv, One rs (share rs.length) Iv
  two : barM rs = false → share rs.length ≤ 1 ∨ (2 ≤ rs.length ∧ Two rs)
  odd : rs.length % 2 = 1 → Crs rs (List.range rs.length)
  mov : ∀ m g, Crs rs m → g < rs.length → Crs rs (m.map fun i => (rs.getD i []).getD g 0)
def LstD (u D : Addr) (H : Hp) (p : Addr) (rs : Rows) : Prop := ∃ ps : List Addr, H p = some (.lst (ps.map V.ref)) ∧ Each LstN H ps rs ∧ p ≠ u ∧ p ≠ D ∧ ∀ q ∈ ps, q ≠ u ∧ q ≠ D
theorem LstR.toD {H0 H : Hp} {p u D : Addr} {rs : Rows} (h : LstR H0 H p rs) (hu : H0 u ≠ none) (hD : H0 D ≠ none) : LstD u D H p rs :=
  let ⟨ps, h1, h2, h3, h4⟩ := h
  ⟨ps, h1, h2, fun z => hu (z ▸ h3), fun z => hD (z ▸ h3), fun q hq => ⟨fun z => hu (z ▸ h4 q hq), fun z => hD (z ▸ h4 q hq)⟩⟩
theorem LstD.sx {u D p : Addr} {H H' : Hp} {rs : Rows} (h : LstD u D H p rs) (s : SameX D H H') : LstD u D H' p rs :=
  let ⟨ps, h1, h2, h3, h4, h5⟩ := h
  ⟨ps, s _ _ h1 h4, Each.imp (fun a ha x t => s _ _ t (h5 a ha).2) h2, h3, h4, h5⟩
theorem LstD.toX {u D p : Addr} {H : Hp} {rs : Rows} (h : LstD u D H p rs) : LstRX u H p rs :=
  let ⟨ps, h1, h2, h3, _, h5⟩ := h
  ⟨ps, h1, h2, h3, fun q hq => (h5 q hq).1⟩
theorem LstRX.mono {u p : Addr} {H H' : Hp} {rs : Rows} (h : LstRX u H p rs) (s : Same H H') : LstRX u H' p rs :=
  let ⟨ps, h1, h2, h3, h5⟩ := h
  ⟨ps, s _ _ h1, eachL h2 s, h3, h5⟩
theorem LstRX.sx {u p : Addr} {H H' : Hp} {rs : Rows} (h : LstRX u H p rs) (s : SameX u H H') : LstRX u H' p rs :=
  let ⟨ps, h1, h2, h3, h5⟩ := h
  ⟨ps, s _ _ h1 h3, Each.imp (fun a ha x t => s _ _ t (h5 a ha)) h2, h3, h5⟩
theorem LstR.toX {H0 H : Hp} {p u : Addr} {rs : Rows} (h : LstR H0 H p rs) (hu : H0 u ≠ none) : LstRX u H p rs := (h.toD (D := u) hu hu).toX
theorem LstR.toRR {H0 H : Hp} {p : Addr} {rs : Rows} (h : LstR H0 H p rs) : LstRR H p rs := let ⟨ps, h1, h2, _, _⟩ := h; ⟨ps, h1, h2⟩
theorem LstRR.mono {H H' : Hp} {p : Addr} {rs : Rows} (h : LstRR H p rs) (s : Same H H') : LstRR H' p rs := let ⟨ps, h1, h2⟩ := h; ⟨ps, s _ _ h1, eachL h2 s⟩
theorem ringL_len (n : Nat) : (ringL n).length = n := by simp [ringL]
theorem ringL_row {n : Nat} {l : List Nat} (h : l ∈ ringL n) : l.length = n := by
  obtain ⟨k, _, rfl⟩ := List.mem_map.mp h
  simp
theorem share_le : ∀ n : Nat, 1 ≤ n → n ≤ 12 → share n ≤ 1000 := fun n h1 h => by
  have z := (by decide : ∀ n : _root_.Fin 12, share (n.val + 1) ≤ 1000) ⟨n - 1, by omega⟩
  have e : n - 1 + 1 = n := by omega
  simpa [e] using z
/-- what follows two ways is shown once -/
theorem shareG {S : Prop} {A : Hp → Prop} (G : Hp → Prop) (w : (∀ H, A H → G H) → S) (r : ∀ H, A H → G H) : S := w r
def spRight : Sp := fun vs H Q _ => ∃ u : Addr, vs = [.ref u] ∧ Urn H u ∧ ∀ H', SameX u H H' → Q (.bl true) H'
theorem sc_law_right : FnScope ["_law_urn_here", "_law_some", "_law_order_here", "_law_rows", "_law_loop", "_law_due", "_law_told", "_law_name", "_law_moved", "_law_image"] ["_law_urn_here"] (defScope (top 74)) := ⟨rfl, rfl, rfl, by decide +kernel, rfl, by decide +kernel, by decide +kernel⟩
theorem ok_law_right (T : Txt K mg) (hG : ∀ B rs s, B ∈ baseL → RenBy B rs s → GoodR rs) (hB : ∀ B, B ∈ baseL → 1 ≤ B.length ∧ B.length ≤ 12 ∧ ∀ r ∈ B, r.length = B.length ∧ ∀ x ∈ r, x < B.length) (c_law_ring : Cal P w K mg base 2 "_law_ring" spRing) (c_law_pairs : Cal P w K mg base 2 "_law_pairs" spPairs) (c_law_turns : Cal P w K mg base 2 "_law_turns" spTurns) (c_law_renamed : Cal P w K mg base 4 "_law_renamed" spRenamed) (c_law_pick : Cal P w K mg base 3 "_law_pick" spPick) (c_law_is_barred : Cal P w K mg base 2 "_law_is_barred" spLBar) (c_complete_mapping : Cal P w K mg base 15 "complete_mapping" (spComp K)) (c_is_barred : Cal P w K mg base 10 "is_barred" (spBarG K)) (c_sum_bar : Cal P w K mg base 9 "sum_bar" (spSum K)) (c_count_transversals : Cal P w K mg base 7 "count_transversals" (spTrans K)) (c_law_near_right : Cal P w K mg base 7 "_law_near_right" (spNear K)) (c_law_mixed : Cal P w K mg base 3 "_law_mixed" spMixed) (c_is_complete_mapping : Cal P w K mg base 6 "is_complete_mapping" (spCrossL K)) (c_law_draw : Cal P w K mg base 2 "_law_draw" spDraw) (c_law_is_complete : Cal P w K mg base 1 "_law_is_complete" (spLCross K)) (m_Loop_init : FnR P w K mg base CX0 5 (He.ma K (He.ga K "Loop") "__init__") (spLoop K)) (m_Table_init : FnR P w K mg base CX0 9 (He.ma K (He.ga K "Table") "__init__") (spTable K)) (m_Loop_table : FnR P w K mg base CX0 2 (pgA K "Loop" "table") (spLoopTab K)) : Cal P w K mg base (16) "_law_right" (spRight) := by
  obtain ⟨fd, F⟩ := T.f_law_right
  refine cal_of T.g_law_right F sc_law_right (fun vs H Q E h => by first | (obtain ⟨_, rfl, _⟩ := h; rfl) | (obtain ⟨_, _, rfl, _⟩ := h; rfl) | (obtain ⟨_, _, _, rfl, _⟩ := h; rfl) | (obtain ⟨_, _, _, _, rfl, _⟩ := h; rfl) | (obtain ⟨_, _, _, _, _, rfl, _⟩ := h; rfl) | (obtain ⟨_, _, _, _, _, _, rfl, _⟩ := h; rfl) | (obtain ⟨_, _, _, _, _, _, _, rfl, _⟩ := h; rfl) | (obtain ⟨_, _, _, _, _, _, _, _, rfl, _⟩ := h; rfl)) (fun _ _ _ _ _ _ us hl => match us, hl with | [_], _ => rfl) (fun cdv A outer s H vs Q E hr h => ?_)
  obtain ⟨u, rfl, hU, q⟩ := h
  have hz : sizeLine = 16777216 := sizeLine_eq
  have hu0 : H u ≠ none := let ⟨_, _, _, e⟩ := hU; fun z => by rw [e] at z; cases z
  refine ⟨_, (pss_cons (ps_set (i := 1) sc_law_right.nd rfl (Or.inl rfl) (pe_op op_cat (pe_lc (own := [("_law_order_here", 2)]) rfl sc_law_right.nd (pi_range2 (by rfl) T.z_range (pa_cons (pe_int) (pa_cons (pe_int) pa_nil))) (blkOk_by (own := [("_law_order_here", 2)]) (N := ["_law_urn_here", "_law_some", "_law_order_here", "_law_rows", "_law_loop", "_law_due", "_law_told", "_law_name", "_law_moved", "_law_image"]) (sc := defScope (top 74)) (by first | decide +kernel | kernel_rfl | rfl)) (fun _ _ _ _ _ => (pg_name (i := 2) sc_law_right.nd rfl (Or.inl rfl))) (fun _ _ _ _ _ => pts_nil) (fun _ _ _ _ _ => (pe_cal c_law_ring (hr.mono (by decide)) (pa_cons (pv 2) pa_nil)))) (pe_lst (pa_cons (pe_cal c_law_pairs (hr.mono (by decide)) (pa_cons (pe_cal c_law_ring (hr.mono (by decide)) (pa_cons (pe_int) pa_nil)) (pa_cons (pe_cal c_law_ring (hr.mono (by decide)) (pa_cons (pe_int) pa_nil)) pa_nil))) (pa_cons (pe_cal c_law_turns (hr.mono (by decide)) (pa_cons (pe_int) pa_nil)) pa_nil)))))
      (pss_cons (ps_set (i := 1) sc_law_right.nd rfl (Or.inl rfl) (pe_op op_cat (pv 1) (pe_lst (pa_cons (pe_cal c_law_turns (hr.mono (by decide)) (pa_cons (pe_int) pa_nil)) (pa_cons (pe_cal c_law_pairs (hr.mono (by decide)) (pa_cons (pe_cal c_law_ring (hr.mono (by decide)) (pa_cons (pe_int) pa_nil)) (pa_cons (pe_cal c_law_ring (hr.mono (by decide)) (pa_cons (pe_int) pa_nil)) pa_nil))) (pa_cons (pe_cal c_law_pairs (hr.mono (by decide)) (pa_cons (pe_cal c_law_ring (hr.mono (by decide)) (pa_cons (pe_int) pa_nil)) (pa_cons (pe_cal c_law_ring (hr.mono (by decide)) (pa_cons (pe_int) pa_nil)) pa_nil))) pa_nil))))))
      (pss_cons (ps_set (i := 3) sc_law_right.nd rfl (Or.inr rfl) (pe_cal c_law_renamed (hr.mono (by decide)) (pa_cons (pv 0) (pa_cons (pe_cal c_law_pick (hr.mono (by decide)) (pa_cons (pv 0) (pa_cons (pv 1) pa_nil))) pa_nil))))
      (pss_cons (ps_par3 (i := 4) (j := 5) (l := 6) rfl sc_law_right.nd rfl rfl rfl (by decide) (by decide) (by decide) rfl rfl rfl (pa_cons (StX.pe_makeR T.k_Loop m_Loop_init (hr.mono (by decide)) (by rfl) T.g_Loop pass0 (pa_cons (StX.pe_makeR T.k_Table m_Table_init (hr.mono (by decide)) (by rfl) T.g_Table pass0 (pa_cons (pv 3) pa_nil)) pa_nil)) (pa_cons (pe_cal c_law_is_barred (hr.mono (by decide)) (pa_cons (pv 3) pa_nil)) (pa_cons (pe_cal c_complete_mapping (hr.mono (by decide)) (pa_cons (StX.pe_makeR T.k_Loop m_Loop_init (hr.mono (by decide)) (by rfl) T.g_Loop pass0 (pa_cons (StX.pe_makeR T.k_Table m_Table_init (hr.mono (by decide)) (by rfl) T.g_Table pass0 (pa_cons (pv 3) pa_nil)) pa_nil)) pa_nil)) pa_nil))) (by rfl))
      (pss_cons (ps_if (PW.pt (pw_or (pt_cmpR op_ne (pe_cal c_is_barred (hr.mono (by decide)) (pa_cons (pv 4) pa_nil)) (pv 5) (nomark _)) (pw_or (pt_cmpR op_ne (pe_cmpR op_isN (pv 6) (pe_non) (nomark _)) (pv 5) (nomark _)) (pw_or1 (pt_cmpR op_eq (pe_cmpR op_isN (pe_cal c_sum_bar (hr.mono (by decide)) (pa_cons (SlX.pe_propSl (E := E0) (pv 4) T.s_Loop T.p_Loop_table.at_ T.p_Loop_table.get T.p_Loop_table.tk T.p_Loop_table.rc m_Loop_table (hr.mono (by decide)) (fun _ _ _ _ h => h.elim)) pa_nil)) (pe_non) (nomark _)) (pv 5) (nomark _)))))) (pss_one (ps_ret (pe_bl))) pss_nil)
      (pss_cons (ps_if (PW.pt (pw_and (pt_cmpR op_lt (pe_callB (lenK (K := K) rfl) (by rfl) T.z_len (by decide +kernel) (pa_cons (pv 3) pa_nil)) (pe_int) (nomark _)) (pw_and1 (pt_cmpR op_ne (pe_cmpR op_eq (pe_cal c_count_transversals (hr.mono (by decide)) (pa_cons (SlX.pe_propSl (E := E0) (pv 4) T.s_Loop T.p_Loop_table.at_ T.p_Loop_table.get T.p_Loop_table.tk T.p_Loop_table.rc m_Loop_table (hr.mono (by decide)) (fun _ _ _ _ h => h.elim)) pa_nil)) (pe_int) (nomark _)) (pv 5) (nomark _))))) (pss_one (ps_ret (pe_bl))) pss_nil)
      (pss_cons (ps_if (pt_not (pt_val (pe_cal c_law_near_right (hr.mono (by decide)) (pa_cons (pv 0) (pa_cons (pv 4) (pa_cons (pv 3) (pa_cons (pe_cal c_law_mixed (hr.mono (by decide)) (pa_cons (pv 0) (pa_cons (pe_callB (lenK (K := K) rfl) (by rfl) T.z_len (by decide +kernel) (pa_cons (pv 3) pa_nil)) pa_nil))) pa_nil))))))) (pss_one (ps_ret (pe_bl))) pss_nil)
      (pss_cons (ps_if (PW.pt (pw_and (pt_cmpR op_eq (pe_op op_mod (pe_callB (lenK (K := K) rfl) (by rfl) T.z_len (by decide +kernel) (pa_cons (pv 3) pa_nil)) (pe_int)) (pe_int) (nomark _)) (pw_and1 (pt_not (pt_val (pe_cal c_is_complete_mapping (hr.mono (by decide)) (pa_cons (pv 4) (pa_cons (pe_tupRg rfl (by rfl) T.z_tuple (prg_1 (by rfl) T.z_range (pe_callB (lenK (K := K) rfl) (by rfl) T.z_len (by decide +kernel) (pa_cons (pv 3) pa_nil)))) pa_nil)))))))) (pss_one (ps_ret (pe_bl))) pss_nil)
      (pss_cons (ps_if (pt_cmpR op_isN (pv 6) (pe_non) (nomark _)) (pss_one (ps_ret (pe_bl))) pss_nil)
      (pss_cons (ps_set (i := 7) sc_law_right.nd rfl (Or.inr rfl) (pe_cal c_law_draw (hr.mono (by decide)) (pa_cons (pv 0) (pa_cons (pe_callB (lenK (K := K) rfl) (by rfl) T.z_len (by decide +kernel) (pa_cons (pv 3) pa_nil)) pa_nil))))
      (pss_cons (ps_set (i := 8) sc_law_right.nd rfl (Or.inl rfl) (pe_callTy (tupOfK (K := K) rfl) (by rfl) T.z_tuple (by decide +kernel) (pa_cons (pe_lc (own := [("_law_image", 9)]) rfl sc_law_right.nd (piT (K := K) rfl (pv 6)) (blkOk_by (own := [("_law_image", 9)]) (N := ["_law_urn_here", "_law_some", "_law_order_here", "_law_rows", "_law_loop", "_law_due", "_law_told", "_law_name", "_law_moved", "_law_image"]) (sc := defScope (top 74)) (by first | decide +kernel | kernel_rfl | rfl)) (fun _ _ _ _ _ => (pg_name (i := 9) sc_law_right.nd rfl (Or.inl rfl))) (fun _ _ _ _ _ => pts_nil) (fun _ _ _ _ _ => (pe_ix (ixT (K := K) rfl) (pe_ix (ixT (K := K) rfl) (pv 3) (pv 9) (fun _ _ => rfl)) (pv 7) (fun _ _ => rfl)))) pa_nil)))
      (pss_cons (ps_if (PW.pt (pw_or (pt_not (pt_val (pe_cal c_law_is_complete (hr.mono (by decide)) (pa_cons (pv 3) (pa_cons (pv 6) pa_nil))))) (pw_or (pt_not (pt_val (pe_cal c_law_is_complete (hr.mono (by decide)) (pa_cons (pv 3) (pa_cons (pv 8) pa_nil))))) (pw_or1 (pt_not (pt_val (pe_cal c_is_complete_mapping (hr.mono (by decide)) (pa_cons (pv 4) (pa_cons (pv 8) pa_nil))))))))) (pss_one (ps_ret (pe_bl))) pss_nil)
      (pss_one (ps_ret (pe_cal c_law_near_right (hr.mono (by decide)) (pa_cons (pv 0) (pa_cons (pv 4) (pa_cons (pv 3) (pa_cons (pv 6) pa_nil))))))))))))))))))), ?_⟩
  refine ⟨_, _, rfl, ⟨by decide, by decide, by decide, by decide⟩, fun D hD => ?_⟩
  refine lc_gen walk_range (by decide) hD (fun _ _ => trivial) (fun H' k y => ∃ p, y = .ref p ∧ LstD u D H' p (ringL (k + 1))) (fun H0 H' k y sx ⟨p, e, t⟩ => ⟨p, e, t.sx sx⟩) (fun k v H0 H' acc Kf hk sm hacc hy hK => ?_) (fun ys H1 s1 hy1 ly hr1 => ?_)
  · obtain ⟨rfl, hv⟩ := hy
    have hk8 : k < 8 := hk
    obtain rfl : v = vn (k + 1) := hv.trans (by show V.int (1 + (k : Int)) = V.int ((k + 1 : Nat) : Int); rw [Int.natCast_add, Int.add_comm]; rfl)
    have hu1 : H' u ≠ none := let ⟨_, _, _, e⟩ := hU; fun z => by rw [sm _ _ e] at z; cases z
    have hD1 : H' D ≠ none := fun z => by rw [hacc] at z; cases z
    exact ⟨rfl, _, rfl, k + 1, rfl, by omega, by omega, fun p H2 s2 hp => hK _ _ s2 ⟨p, rfl, hp.toD hu1 hD1⟩⟩
  have hU1 := hU.mono s1
  have hu1 : H1 u ≠ none := let ⟨_, _, _, e⟩ := hU1; fun z => by rw [e] at z; cases z
  have it1 : ∀ v ∈ ys, ∃ p B, v = .ref p ∧ LstRX u H1 p B ∧ B ∈ baseL := fun v hv => by
    obtain ⟨k, hk⟩ := List.mem_iff_getElem?.mp hv
    obtain ⟨p, e, hp⟩ := hr1 k v hk
    have hk8 : k < 8 := by have := (List.getElem?_eq_some_iff.mp hk).1; rw [ly] at this; exact this
    refine ⟨p, _, e, hp.toX, ?_⟩
    have : ∀ k, k < 8 → ringL (k + 1) ∈ baseL := by
      intro k hk
      rcases k with _ | _ | _ | _ | _ | _ | _ | _ | k <;> first | omega | simp [baseL]
    exact this k hk8
  have hb : ∀ {B}, B ∈ [pairsL (ringL 2) (ringL 2), turnsL 3, turnsL 4, pairsL (ringL 4) (ringL 2)] → B ∈ baseL := fun {B} h => by
    simp only [List.mem_cons, List.not_mem_nil, or_false] at h
    rcases h with rfl | rfl | rfl | rfl <;> simp [baseL]
  have l2 : ∀ l ∈ ringL 2, l.length ≤ 12 := fun l h => by rw [ringL_row h]; decide
  have l4 : ∀ l ∈ ringL 4, l.length ≤ 12 := fun l h => by rw [ringL_row h]; decide
  refine ⟨2, rfl, by decide, by decide, fun a1 H2 s2 ha1 => ?_⟩
  refine ⟨2, rfl, by decide, by decide, fun a2 H3 s3 ha2 => ?_⟩
  refine ⟨a1, a2, ringL 2, ringL 2, rfl, ha1.toRR.mono s3, ha2.toRR, by decide, by decide, l2, l2, fun a3 H4 s4 ha3 => ?_⟩
  refine ⟨3, rfl, by decide, by decide, fun a4 H5 s5 ha4 => ⟨(by decide : 2 ≤ sizeLine), fun L1 hL1 => ?_⟩⟩
  have r5 : Same H1 H5 := fun c v e => s5 _ _ (s4 _ _ (s3 _ _ (s2 _ _ e)))
  have s6 := same_upd (o := .lst [V.ref a3, .ref a4]) hL1
  refine ⟨D, L1, ys, _, rfl, rfl, s6 _ _ (r5 _ _ hy1), upd_same, by rw [ly]; show 8 + 2 ≤ _; omega, fun F1 hF1 => ?_⟩
  have s7 := same_upd (o := .lst (ys ++ [V.ref a3, .ref a4])) hF1
  have hF7 : upd (upd H5 L1 (.lst [V.ref a3, .ref a4])) F1 (.lst (ys ++ [V.ref a3, .ref a4])) F1 = some (.lst (ys ++ [V.ref a3, .ref a4])) := upd_same
  have r7 : Same H1 (upd (upd H5 L1 (.lst [V.ref a3, .ref a4])) F1 (.lst (ys ++ [V.ref a3, .ref a4]))) := fun c v e => s7 _ _ (s6 _ _ (r5 _ _ e))
  have m3 : ∀ {H0 H' : Hp} , Same H0 H' → H0 u ≠ none → H' u ≠ none := fun s h z => h (s.free z)
  have hu3 : H3 u ≠ none := m3 s3 (m3 s2 hu1)
  have hu4 : H4 u ≠ none := m3 s4 hu3
  have x3 := ((ha3.toX hu3).mono s5).mono fun c v e => s7 _ _ (s6 _ _ e)
  have x4 := (ha4.toX hu4).mono fun c v e => s7 _ _ (s6 _ _ e)
  have hu7 := m3 r7 hu1
  generalize upd (upd H5 L1 (.lst [V.ref a3, .ref a4])) F1 (.lst (ys ++ [V.ref a3, .ref a4])) = H7 at s7 hF7 r7 x3 x4 hu7 ⊢
  refine ⟨_, rfl, 4, rfl, by decide, by decide, fun b1 H8 s8 hb1 => ?_⟩
  refine ⟨4, rfl, by decide, by decide, fun b2 H9 s9 hb2 => ?_⟩
  refine ⟨2, rfl, by decide, by decide, fun b3 H10 s10 hb3 => ?_⟩
  refine ⟨b2, b3, ringL 4, ringL 2, rfl, hb2.toRR.mono s10, hb3.toRR, by decide, by decide, l4, l2, fun b4 H11 s11 hb4 => ?_⟩
  refine ⟨2, rfl, by decide, by decide, fun b5 H12 s12 hb5 => ?_⟩
  refine ⟨2, rfl, by decide, by decide, fun b6 H13 s13 hb6 => ?_⟩
  refine ⟨b5, b6, ringL 2, ringL 2, rfl, hb5.toRR.mono s13, hb6.toRR, by decide, by decide, l2, l2, fun b7 H14 s14 hb7 => ⟨(by decide : 3 ≤ sizeLine), fun L2 hL2 => ?_⟩⟩
  have hu8 := m3 s8 hu7
  have hu10 := m3 s10 (m3 s9 hu8)
  have hu13 := m3 s13 (m3 s12 (m3 s11 hu10))
  have s15 := same_upd (o := .lst [V.ref b1, .ref b4, .ref b7]) hL2
  have r14 : Same H7 H14 := fun c v e => s14 _ _ (s13 _ _ (s12 _ _ (s11 _ _ (s10 _ _ (s9 _ _ (s8 _ _ e))))))
  refine ⟨F1, L2, _, _, rfl, rfl, s15 _ _ (r14 _ _ hF7), upd_same, by rw [List.length_append, ly]; show 8 + 2 + 3 ≤ _; omega, fun F2 hF2 => ?_⟩
  have s16 := same_upd (o := .lst (ys ++ [V.ref a3, .ref a4] ++ [V.ref b1, .ref b4, .ref b7])) hF2
  have f14 : Same H14 (upd (upd H14 L2 (.lst [V.ref b1, .ref b4, .ref b7])) F2 (.lst (ys ++ [V.ref a3, .ref a4] ++ [V.ref b1, .ref b4, .ref b7]))) := fun c v e => s16 _ _ (s15 _ _ e)
  have y1 := (((hb1.toX hu7).mono fun c v e => s14 _ _ (s13 _ _ (s12 _ _ (s11 _ _ (s10 _ _ (s9 _ _ e)))))) : LstRX u H14 b1 _).mono f14
  have y4 := (((hb4.toX hu10).mono fun c v e => s14 _ _ (s13 _ _ (s12 _ _ e))) : LstRX u H14 b4 _).mono f14
  have y7 := (hb7.toX hu13).mono f14
  have hF17 : upd (upd H14 L2 (.lst [V.ref b1, .ref b4, .ref b7])) F2 (.lst (ys ++ [V.ref a3, .ref a4] ++ [V.ref b1, .ref b4, .ref b7])) F2 = some (.lst (ys ++ [V.ref a3, .ref a4] ++ [V.ref b1, .ref b4, .ref b7])) := upd_same
  have r17 : Same H7 (upd (upd H14 L2 (.lst [V.ref b1, .ref b4, .ref b7])) F2 (.lst (ys ++ [V.ref a3, .ref a4] ++ [V.ref b1, .ref b4, .ref b7]))) := fun c v e => f14 _ _ (r14 _ _ e)
  have nF2 : F2 ≠ u := fun z => by
    have := m3 s15 (m3 r14 hu7)
    rw [← z] at this
    exact this hF2
  generalize upd (upd H14 L2 (.lst [V.ref b1, .ref b4, .ref b7])) F2 (.lst (ys ++ [V.ref a3, .ref a4] ++ [V.ref b1, .ref b4, .ref b7])) = H17 at f14 y1 y4 y7 hF17 r17 ⊢
  have rr : Same H1 H17 := fun c v e => r17 _ _ (r7 _ _ e)
  have items : ∀ v ∈ ys ++ [V.ref a3, .ref a4] ++ [V.ref b1, .ref b4, .ref b7], ∃ p B, v = .ref p ∧ LstRX u H17 p B ∧ B ∈ baseL := fun v hv => by
    rcases List.mem_append.mp hv with hv | hv
    · rcases List.mem_append.mp hv with hv | hv
      · obtain ⟨p, B, e, h1, h2⟩ := it1 v hv
        exact ⟨p, B, e, h1.mono rr, h2⟩
      · simp only [List.mem_cons, List.not_mem_nil, or_false] at hv
        rcases hv with rfl | rfl
        · exact ⟨_, _, rfl, x3.mono r17, hb (by simp)⟩
        · exact ⟨_, _, rfl, x4.mono r17, hb (by simp)⟩
    · simp only [List.mem_cons, List.not_mem_nil, or_false] at hv
      rcases hv with rfl | rfl | rfl
      · exact ⟨_, _, rfl, y1, hb (by simp)⟩
      · exact ⟨_, _, rfl, y4, hb (by simp)⟩
      · exact ⟨_, _, rfl, y7, hb (by simp)⟩
  have hU17 := hU1.mono rr
  have sH17 : Same H H17 := fun c v e => rr _ _ (s1 _ _ e)
  have lys : (ys ++ [V.ref a3, .ref a4] ++ [V.ref b1, .ref b4, .ref b7]).length = 13 := by rw [List.length_append, List.length_append, ly]; rfl
  generalize ys ++ [V.ref a3, .ref a4] ++ [V.ref b1, .ref b4, .ref b7] = zs at hF17 items lys
  clear y1 y4 y7 r17 f14 x3 x4 r7 hF7 it1 hr1 ly hy1 s15 s16 r14 s6 s7 r5
  refine ⟨_, rfl, _, rfl, _, rfl, u, F2, zs, rfl, hU17, hF17, nF2, by omega, by omega, fun v H18 hv sx18 hU18 => ?_⟩
  obtain ⟨p, B, rfl, hp, hBm⟩ := items v hv
  have hB3 := hB B hBm
  refine ⟨u, p, B, rfl, hU18, hp.sx sx18, hB3.1, hB3.2.1, hB3.2.2, fun a H19 rs ss sx19 hU19 hR hren => ?_⟩
  have G := hG B rs ss hBm hren
  have GR := G.grp
  have LT := GR.toLat
  have h12 := LT.le
  have hpos := LT.pos
  have sx0 : SameX u H H19 := fun c v e n => sx19 _ _ (sx18 _ _ (sH17 _ _ e) n) n
  clear hren hB3 hp hv items hF17 nF2 lys rr sx18 sx19 sH17 hU17 hU18
  -- the loop
  refine ⟨_, rfl, fun x dx hx hdx hne => ⟨x, dx, H19, a, rs, rfl, rfl, hx, hdx, hne, hR, LT, fun H20 s20 hT => ⟨rfl, fun y dy hy hdy hne2 => ⟨y, dy, H20, x, rs, rfl, rfl, hy, hdy, hne2, hT, LT, fun H21 s21 hL => ⟨rfl, ?_⟩⟩⟩⟩⟩
  have s19 : Same H19 H21 := fun c v e => s21 _ _ (s20 _ _ e)
  refine ⟨_, rfl, a, rs, rfl, hR.mono s19, GR, fun H22 s22 => ?_⟩
  have hR22 := (hR.mono s19).mono s22
  refine ⟨_, rfl, fun x2 dx2 hx2 hdx2 hne3 => ⟨x2, dx2, H22, a, rs, rfl, rfl, hx2, hdx2, hne3, hR22, LT, fun H23 s23 hT2 => ⟨rfl, fun y2 dy2 hy2 hdy2 hne4 => ⟨y2, dy2, H23, x2, rs, rfl, rfl, hy2, hdy2, hne4, hT2, LT, fun H24 s24 hL2 => ⟨rfl, ?_⟩⟩⟩⟩⟩
  have f24 : Same H21 H24 := fun c v e => s24 _ _ (s23 _ _ (s22 _ _ e))
  refine ⟨y2, rs, rfl, hL2, GR, fun H25 s25 hn => ⟨_, _, _, rfl, ?_⟩, fun tm m H25 s25 hf hm hcr => ⟨_, _, _, rfl, ?_⟩⟩
  · have hb1 : barM rs = true := by
      rcases hn with z | z
      · exact z
      · cases e : barM rs with
        | true => rfl
        | false => exact absurd (G.has e) z
    have f25 : Same H21 H25 := fun c v e => s25 _ _ (f24 _ _ e)
    have hL25 := hL.mono f25
    refine ⟨_, rfl, y, rs, rfl, hL25, GR, fun H26 s26 => ⟨_, rfl, rfl, _, rfl, ?_⟩⟩
    rw [decide_eq_true rfl]
    refine iteF ⟨_, rfl, rfl, _, rfl, rfl, _, rfl, ?_⟩
    rw [hb1]
    refine iteF ?_
    have hL26 := hL25.mono s26
    have hL26' := hL26
    obtain ⟨zx, zm, zr, zt, hS, _⟩ := hL26'
    refine ⟨_, rfl, y, zx, _, rfl, hS, y, rs, rfl, hL26, fun t ht => ?_⟩
    refine ⟨t, rs, rfl, ht, LT, share_le _ hpos h12, .inr ⟨G.one hb1, fun p H27 s27 => ?_⟩⟩
    refine ⟨rfl, _, rfl, rfl, _, rfl, ?_⟩
    refine iteF ?_
    have f27 : Same H21 H27 := fun c v e => s27 _ _ (s26 _ _ (f25 _ _ e))
    have hL27 := hL.mono f27
    have hR27 := (hR.mono s19).mono f27
    obtain ⟨ps, ha27, hE27⟩ := hR27
    have lp := hE27.length
    refine ⟨_, rfl, a, _, rfl, .inr (SqT.of ha27), _, _, rfl, rfl, _, rfl, ?_⟩
    rw [List.length_map, lp]
    apply shareG (A := fun H28 => Same H27 H28)
    case w =>
     intro rest
     by_cases h8 : (rs.length : Int) < 8
     · rw [decide_eq_true h8]
       have hL27' := hL27
       obtain ⟨zx2, zm2, zr2, zt2, hS2, _⟩ := hL27'
       refine iteT ⟨_, rfl, y, zx2, _, rfl, hS2, y, rs, rfl, hL27, fun t2 ht2 => ?_⟩
       refine ⟨t2, rs, rfl, ht2, LT, by omega, fun c H28 hc s28 => ?_⟩
       have c0 : c = 0 := hc.mpr (G.no hb1 (by omega))
       subst c0
       refine ⟨rfl, _, rfl, rfl, _, rfl, ?_⟩
       exact iteF (rest H28 s28)
     · rw [decide_eq_false h8]
       exact iteF (rest H27 sRefl)
    case r =>
     intro H28 s28
     have f28 : Same H21 H28 := fun c v e => s28 _ _ (f27 _ _ e)
     have hU28 : Urn H28 u := hU19.mono fun c v e => f28 _ _ (s19 _ _ e)
     have hR28 := (hR.mono s19).mono f28
     have hL28 := hL.mono f28
     have ha28 := s28 _ _ ha27
     have sx28 : SameX u H H28 := fun c v e n => f28 _ _ (s19 _ _ (sx0 _ _ e n))
     refine ⟨_, rfl, _, rfl, _, rfl, _, rfl, _, rfl, a, _, rfl, .inr (SqT.of ha28), u, rs.length, by rw [List.length_map, lp]; rfl, hU28, by omega, fun mp H29 ml hml sx29 hU29 hm29 => ?_⟩
     refine ⟨u, y, a, mp, rs, ml, rfl, hU29, hU28.loop sx29 hL28, hU28.tupR sx29 hR28, LT, hm29, (perm_lt hml).1, fun H30 sx30 hU30 => ⟨_, rfl, ?_⟩⟩
     refine iteF ?_
     have sx31 : SameX u H28 H30 := sx29.trans sx30
     have hL30 := hU28.loop sx31 hL28
     have ha30 := hU28.keep sx31 ha28 fun _ z => nomatch z
     have sx32 : SameX u H H30 := sx28.trans sx31
     refine ⟨_, rfl, a, _, rfl, .inr (SqT.of ha30), _, _, rfl, rfl, (show (0 : Int) < 2 by decide), rfl, _, rfl, ?_⟩
     rw [List.length_map, lp]
     have en : decide (V.int (((rs.length : Nat) : Int) % 2) = V.int 1) = decide (rs.length % 2 = 1) := dec_vn (rs.length % 2) 1
     rw [en]
     apply shareG (A := fun H31 => Same H30 H31)
     case w =>
      intro rest
      by_cases ho : rs.length % 2 = 1
      · rw [decide_eq_true ho]
        refine iteT ⟨_, rfl, _, rfl, a, _, rfl, .inr (SqT.of ha30), _, rfl, by rw [List.length_map, lp]; exact RgOk.n (by omega), fun p2 hp2 => ?_⟩
        rw [List.length_map, lp, rgN]
        have s31 := same_upd (o := .tup ((List.range rs.length).map vn)) hp2
        refine ⟨y, rs, .ref p2, (List.range rs.length).map vn, rfl, hL30.mono s31, LT, .tup upd_same (fun v hv => by obtain ⟨i, _, rfl⟩ := List.mem_map.mp hv; exact .inl ⟨_, rfl⟩) (by rw [List.length_map, List.length_range]; omega), fun b H32 hb s32 => ⟨_, rfl, ?_⟩⟩
        have b1 : b = true := hb.mpr ⟨_, rfl, G.odd ho⟩
        subst b1
        exact iteF (rest H32 fun c v e => s32 _ _ (s31 _ _ e))
      · rw [decide_eq_false ho]
        exact iteF (iteF (rest H30 sRefl))
     case r =>
      intro H31 s31
      refine ⟨_, rfl, rfl, _, rfl, ?_⟩
      refine iteT ?_
      exact q H31 fun c v e n => s31 _ _ (sx32 _ _ e n)
  · have f25 : Same H21 H25 := fun c v e => s25 _ _ (f24 _ _ e)
    have hL25 := hL.mono f25
    refine ⟨_, rfl, y, rs, rfl, hL25, GR, fun H26 s26 => ⟨_, rfl, rfl, _, rfl, ?_⟩⟩
    rw [decide_eq_true rfl]
    refine iteF ⟨_, rfl, rfl, _, rfl, rfl, _, rfl, ?_⟩
    rw [hf]
    refine iteF ?_
    have hL26 := hL25.mono s26
    have hL26' := hL26
    obtain ⟨zx, zm, zr, zt, hS, _⟩ := hL26'
    refine ⟨_, rfl, y, zx, _, rfl, hS, y, rs, rfl, hL26, fun t ht => ?_⟩
    refine ⟨t, rs, rfl, ht, LT, share_le _ hpos h12, .inl ⟨G.two hf, fun H27 s27 => ?_⟩⟩
    refine ⟨rfl, _, rfl, rfl, _, rfl, ?_⟩
    refine iteF ?_
    have f27 : Same H21 H27 := fun c v e => s27 _ _ (s26 _ _ (f25 _ _ e))
    have hL27 := hL.mono f27
    have hR27 := (hR.mono s19).mono f27
    obtain ⟨ps, ha27, hE27⟩ := hR27
    have lp := hE27.length
    refine ⟨_, rfl, a, _, rfl, .inr (SqT.of ha27), _, _, rfl, rfl, _, rfl, ?_⟩
    rw [List.length_map, lp]
    apply shareG (A := fun H28 => Same H27 H28)
    case w =>
     intro rest
     by_cases h8 : (rs.length : Int) < 8
     · rw [decide_eq_true h8]
       have hL27' := hL27
       obtain ⟨zx2, zm2, zr2, zt2, hS2, _⟩ := hL27'
       refine iteT ⟨_, rfl, y, zx2, _, rfl, hS2, y, rs, rfl, hL27, fun t2 ht2 => ?_⟩
       refine ⟨t2, rs, rfl, ht2, LT, by omega, fun c H28 hc s28 => ?_⟩
       have c0 : c ≠ 0 := fun z => hc.mp z (G.has hf)
       have dc : decide (V.int c = V.int 0) = false := decide_eq_false fun z => c0 (V.int.inj z)
       refine ⟨rfl, _, rfl, rfl, _, rfl, ?_⟩
       rw [dc]
       exact iteF (rest H28 s28)
     · rw [decide_eq_false h8]
       exact iteF (rest H27 sRefl)
    case r =>
     intro H28 s28
     have f28 : Same H21 H28 := fun c v e => s28 _ _ (f27 _ _ e)
     have hU28 : Urn H28 u := hU19.mono fun c v e => f28 _ _ (s19 _ _ e)
     have hR28 := (hR.mono s19).mono f28
     have hL28 := hL.mono f28
     have ha28 := s28 _ _ ha27
     have sx28 : SameX u H H28 := fun c v e n => f28 _ _ (s19 _ _ (sx0 _ _ e n))
     refine ⟨_, rfl, _, rfl, _, rfl, _, rfl, _, rfl, a, _, rfl, .inr (SqT.of ha28), u, rs.length, by rw [List.length_map, lp]; rfl, hU28, by omega, fun mp H29 ml hml sx29 hU29 hm29 => ?_⟩
     refine ⟨u, y, a, mp, rs, ml, rfl, hU29, hU28.loop sx29 hL28, hU28.tupR sx29 hR28, LT, hm29, (perm_lt hml).1, fun H30 sx30 hU30 => ⟨_, rfl, ?_⟩⟩
     refine iteF ?_
     have sx31 : SameX u H28 H30 := sx29.trans sx30
     have hL30 := hU28.loop sx31 hL28
     have ha30 := hU28.keep sx31 ha28 fun _ z => nomatch z
     have sx32 : SameX u H H30 := sx28.trans sx31
     refine ⟨_, rfl, a, _, rfl, .inr (SqT.of ha30), _, _, rfl, rfl, (show (0 : Int) < 2 by decide), rfl, _, rfl, ?_⟩
     rw [List.length_map, lp]
     have en : decide (V.int (((rs.length : Nat) : Int) % 2) = V.int 1) = decide (rs.length % 2 = 1) := dec_vn (rs.length % 2) 1
     rw [en]
     apply shareG (A := fun H31 => Same H30 H31)
     case w =>
      intro rest
      by_cases ho : rs.length % 2 = 1
      · rw [decide_eq_true ho]
        refine iteT ⟨_, rfl, _, rfl, a, _, rfl, .inr (SqT.of ha30), _, rfl, by rw [List.length_map, lp]; exact RgOk.n (by omega), fun p2 hp2 => ?_⟩
        rw [List.length_map, lp, rgN]
        have s31 := same_upd (o := .tup ((List.range rs.length).map vn)) hp2
        refine ⟨y, rs, .ref p2, (List.range rs.length).map vn, rfl, hL30.mono s31, LT, .tup upd_same (fun v hv => by obtain ⟨i, _, rfl⟩ := List.mem_map.mp hv; exact .inl ⟨_, rfl⟩) (by rw [List.length_map, List.length_range]; omega), fun b H32 hb s32 => ⟨_, rfl, ?_⟩⟩
        have b1 : b = true := hb.mpr ⟨_, rfl, G.odd ho⟩
        subst b1
        exact iteF (rest H32 fun c v e => s32 _ _ (s31 _ _ e))
      · rw [decide_eq_false ho]
        exact iteF (iteF (rest H30 sRefl))
     case r =>
      intro H31 s31
      refine ⟨_, rfl, rfl, _, rfl, ?_⟩
      refine iteF ?_
      have g31 : SameX u H28 H31 := fun c v e n => s31 _ _ (sx31 _ _ e n)
      have hU31 := hU30.mono s31
      have hL31 := hL30.mono s31
      have ha31 := s31 _ _ ha30
      have hm28 := s28 _ _ (s27 _ _ (s26 _ _ hm))
      have hm31 := hU28.tupN g31 hm28
      have lm := (perm_lt hcr.1).1
      refine ⟨_, rfl, _, rfl, a, _, rfl, .inr (SqT.of ha31), u, rs.length, by rw [List.length_map, lp]; rfl, hU31, by omega, by omega, fun g H32 hg sx33 hU32 => ?_⟩
      have ha32 := hU31.keep sx33 ha31 fun _ z => nomatch z
      have hE32 := (hU31.tupR sx33 (hU28.tupR g31 hR28))
      have hm32 := hU31.tupN sx33 hm31
      have hL32 := hU31.loop sx33 hL31
      refine ⟨_, rfl, tm, rfl, ⟨_, SqT.of hm32⟩, fun D3 hD3 => ?_⟩
      refine lc_gen walk_tup (by rw [List.length_map]; omega) hD3 (fun H' s' => SqT.of (s' _ _ hm32)) (fun _ k y => y = vn ((rs.getD (m.getD k 0) []).getD g 0)) (fun _ _ _ _ _ h => h) (fun k v H7 H8 acc Kf hk s7 hacc hy hKf => ?_) (fun ys2 H33 s33 hy2 ly2 hr2 => ?_)
      · obtain ⟨rfl, hv⟩ := hy
        rw [List.length_map] at hk
        have hmk : m[k]? = some (m[k]'hk) := List.getElem?_eq_getElem _
        rw [List.getElem?_map, hmk] at hv
        cases hv
        have hlt := (perm_lt hcr.1).2 _ (List.getElem_mem hk)
        have hrk : rs[m[k]]? = some (rs[m[k]]'hlt) := List.getElem?_eq_getElem _
        obtain ⟨ps2, ha2, hE2⟩ := hE32
        obtain ⟨q1, hq1, t1⟩ := tupR_get hE2 hrk
        have pr := perm_lt (LT.row _ (List.mem_of_getElem? hrk))
        refine ⟨rfl, _, rfl, _, rfl, a, _, _, .ref q1, rfl, rfl, SqT.of (s7 _ _ ha2), hq1, _, rfl, q1, _, _, _, rfl, rfl, SqT.of (s7 _ _ t1), atN (by omega), hKf _ _ sRefl ?_⟩
        rw [getD_of hmk, getD_of hrk]
      have hmv := G.mov m g hcr hg
      generalize hmvd : (m.map fun i => (rs.getD i []).getD g 0) = mv at hmv
      have e2 : ys2 = mv.map vn := by
        rw [ints_of ys2 (fun k => (rs.getD (m.getD k 0) []).getD g 0) hr2, ly2, List.length_map, ← hmvd, map_range_get m (fun i => (rs.getD i []).getD g 0)]
        intro j x e
        rw [getD_of e]
      have lmv := (perm_lt hmv.1).1
      refine ⟨D3, _, rfl, .inl ⟨SqL.of hy2, fun P3 hP3 => ?_⟩⟩
      have s34 := same_upd (o := .tup ys2) hP3
      have hmv34 : TupN (upd H33 P3 (.tup ys2)) P3 mv := by show upd _ _ _ _ = _; rw [upd_same, e2]
      have s32 : Same H32 (upd H33 P3 (.tup ys2)) := fun c v e => s34 _ _ (s33 _ _ e)
      generalize upd H33 P3 (.tup ys2) = H34 at s34 hmv34 s32 ⊢
      have iv : ∀ l : List Nat, ∀ v ∈ l.map vn, Itm v := fun l v h => by obtain ⟨i, _, rfl⟩ := List.mem_map.mp h; exact .inl ⟨_, rfl⟩
      refine ⟨_, rfl, _, rfl, a, rs, .ref tm, m.map vn, rfl, hE32.mono s32, LT, .tup (s32 _ _ hm32) (iv m) (by rw [List.length_map]; omega), fun b1 H35 hb1 s35 => ⟨_, rfl, ?_⟩⟩
      have c1 : b1 = true := hb1.mpr ⟨m, rfl, hcr⟩
      subst c1
      have f35 : Same H32 H35 := fun c v e => s35 _ _ (s32 _ _ e)
      refine iteF ⟨_, rfl, _, rfl, a, rs, .ref P3, mv.map vn, rfl, hE32.mono f35, LT, .tup (s35 _ _ hmv34) (iv mv) (by rw [List.length_map]; omega), fun b2 H36 hb2 s36 => ⟨_, rfl, ?_⟩⟩
      have c2 : b2 = true := hb2.mpr ⟨mv, rfl, hmv⟩
      subst c2
      have f36 : Same H32 H36 := fun c v e => s36 _ _ (f35 _ _ e)
      refine iteF ⟨_, rfl, _, rfl, y, rs, .ref P3, mv.map vn, rfl, hL32.mono f36, LT, .tup (s36 _ _ (s35 _ _ hmv34)) (iv mv) (by rw [List.length_map]; omega), fun b3 H37 hb3 s37 => ⟨_, rfl, ?_⟩⟩
      have c3 : b3 = true := hb3.mpr ⟨mv, rfl, hmv⟩
      subst c3
      have f37 : Same H32 H37 := fun c v e => s37 _ _ (f36 _ _ e)
      refine iteF ?_
      refine ⟨_, rfl, _, rfl, _, rfl, _, rfl, u, y, a, tm, rs, m, rfl, hU32.mono f37, hL32.mono f37, hE32.mono f37, LT, f37 _ _ hm32, lm, fun H38 sx38 hU38 => ?_⟩
      exact q H38 fun c v e n => sx38 _ _ (f37 _ _ (sx33 _ _ (s31 _ _ (sx32 _ _ e n)) n)) n
end
end K61

set_option Elab.async false
set_option maxRecDepth 100000
set_option maxHeartbeats 4000000
namespace K61
open PySem PySem.Spec PyProof.Rows L2
section
variable {P : Program} {w : World} {K : PySem.W.Frag} {mg : Str → Option Value} {base : Heap}
/-- the law: True at each script of at most 63 numbers -/
def spLaw (K : PySem.W.Frag) : Sp := fun vs H Q _ => ∃ (a : Addr) (ns : List Int), vs = [.ref a] ∧ ns.length ≤ 63 ∧ SqL K H a (ns.map V.int) ∧ ∀ H', Q (.bl true) H'
def lastL : List Rows := [ringL 12, pairsL (ringL 6) (ringL 2), turnsL 6, ringL 9, turnsL 5]
def lastB : List Bool := [true, false, false, false, true]
/-- what the last tables answer -/
def LastOk : Prop := ∀ (k : Nat) (B : Rows), lastL[k]? = some B → Grp B ∧ ((lastB[k]? = some true ∧ barM B = true) ∨ (lastB[k]? = some false ∧ barM B = false ∧ HasX B))
theorem sqL_same {K : PySem.W.Frag} {H H' : Hp} {a : Addr} {xs : List V} (h : SqL K H a xs) (s : Same H H') : SqL K H' a xs := by
  exact h.elim (fun h => .inl (h.elim (fun h => .inl (s _ _ h)) fun ⟨o, h⟩ => .inr ⟨o, s _ _ h⟩)) fun h => .inr h
/-- a list stands at D -/
def Lk (H : Hp) (D : Addr) : Prop := ∃ acc, H D = some (.lst acc)
theorem Lk.keep {u b : Addr} {H H' : Hp} {v : HO} (hU : Lk H u) (sx : SameX u H H') (e : H b = some v) (nv : ∀ l, v ≠ .lst l) : H' b = some v := sx _ _ e fun z => by
  obtain ⟨x, h⟩ := hU
  rw [z, h] at e
  exact nv _ (Option.some.inj e).symm
theorem Lk.rows {u b : Addr} {H H' : Hp} {rs : Rows} (hU : Lk H u) (sx : SameX u H H') (h : TupR H b rs) : TupR H' b rs :=
  let ⟨ps, h1, h2⟩ := h
  ⟨ps, hU.keep sx h1 (fun _ z => nomatch z), h2.imp fun _ _ _ t => hU.keep sx t fun _ z => nomatch z⟩
theorem Lk.slots {u a C dx : Addr} {H H' : Hp} {vs : List (Option V)} (hU : Lk H u) (sx : SameX u H H') (h : SlX.Slt H a C dx vs) : SlX.Slt H' a C dx vs := by
  rcases h with ⟨h1, h2⟩ | ⟨h1, h2⟩
  · exact .inl ⟨hU.keep sx h1 fun _ z => (nomatch z), h2⟩
  · exact .inr ⟨hU.keep sx h1 fun _ z => (by unfold SlX.SlO at z; cases z), hU.keep sx h2 fun _ z => (nomatch z)⟩
theorem Lk.loop {K : PySem.W.Frag} {u a : Addr} {H H' : Hp} {rs : Rows} (hU : Lk H u) (sx : SameX u H H') (h : LoopAt K H a rs) : LoopAt K H' a rs :=
  let ⟨dx, m, r, t, h1, h2, h3, ⟨tx, p1, p2, p3, h4, h5⟩⟩ := h
  ⟨dx, m, r, t, hU.slots sx h1, hU.keep sx h2 (fun _ z => nomatch z), hU.rows sx h3, ⟨tx, p1, p2, p3, hU.slots sx h4, hU.rows sx h5⟩⟩
theorem lastL_small : ∀ B ∈ lastL, B.length ≤ 12 ∧ ∀ r ∈ B, r.length ≤ 12 := by decide +kernel
theorem fnok_of {qual x : Str} {params : Arguments} {body : List Stmt} {scope : Scope} {f : Addr} {fd : FuncData} {N ps : List Str} {k : Nat} {sp : Sp}
    (F : FunD K x qual params body scope [] [] f fd) (S : FnScope N ps scope) (len : ∀ vs H Q E, sp vs H Q E → vs.length = ps.length)
    (hbody : ∀ (cdv : Value) (A : Around) (outer : List Env) (s : Shared) (H : Hp) (vs : List V) (Q : VK) (E : XK), Room k (A.deeper (envOfC qual scope s.heap.objs.size f cdv)) → sp vs H Q E →
      ∃ t, PSs (cxOf CX0 P w K mg base N qual scope f cdv A outer s H E).nox body t ∧ t { nx := fun _ H' => Q .non H', rt := Q } (start N vs) H) : FnOk P w K mg base CX0 (k + 1) f fd ps sp :=
  F.ok S len fun cdv A outer s H vs Q E hr h => let ⟨t, h1, h2⟩ := hbody cdv A outer s H vs Q E hr h; ⟨t, h1.nox, h2⟩
theorem sc_law : FnScope ["_law_script", "_law_spot", "_law_some", "_law_loops", "_law_row", "_law_rows", "_law_loop"] ["_law_script"] (defScope (top 75)) := ⟨rfl, rfl, rfl, by decide +kernel, rfl, by decide +kernel, by decide +kernel⟩
theorem ok_law (T : Txt K mg) (hL : LastOk) (c_law_right : Cal P w K mg base 16 "_law_right" spRight) (c_law_urn : Cal P w K mg base 1 "_law_urn" (spUrn K)) (c_law_ring : Cal P w K mg base 2 "_law_ring" spRing) (c_law_pairs : Cal P w K mg base 2 "_law_pairs" spPairs) (c_law_turns : Cal P w K mg base 2 "_law_turns" spTurns) (m_Loop_init : FnR P w K mg base CX0 5 (He.ma K (He.ga K "Loop") "__init__") (spLoop K)) (m_Table_init : FnR P w K mg base CX0 9 (He.ma K (He.ga K "Table") "__init__") (spTable K)) (c_complete_mapping : Cal P w K mg base 15 "complete_mapping" (spComp K)) {fd : FuncData} (F : FunD K "law" "law" (defArgs (top 75)) (defBody (top 75)) (defScope (top 75)) [] [] (He.ga K "law") fd) : FnOk P w K mg base CX0 (17) (He.ga K "law") fd ["_law_script"] (spLaw K) := by
  refine fnok_of F sc_law (fun vs H Q E h => by first | (obtain ⟨_, rfl, _⟩ := h; rfl) | (obtain ⟨_, _, rfl, _⟩ := h; rfl) | (obtain ⟨_, _, _, rfl, _⟩ := h; rfl) | (obtain ⟨_, _, _, _, rfl, _⟩ := h; rfl) | (obtain ⟨_, _, _, _, _, rfl, _⟩ := h; rfl) | (obtain ⟨_, _, _, _, _, _, rfl, _⟩ := h; rfl) | (obtain ⟨_, _, _, _, _, _, _, rfl, _⟩ := h; rfl) | (obtain ⟨_, _, _, _, _, _, _, _, rfl, _⟩ := h; rfl)) (fun cdv A outer s H vs Q E hr h => ?_)
  obtain ⟨a, ns, rfl, hn, hS, q⟩ := h
  have hz : sizeLine = 16777216 := sizeLine_eq
  refine ⟨_, (pss_cons (ps_for PassesOwn.never rfl (pi_range1 (by rfl) T.z_range (pa_cons (pe_callB (call_max2 rfl) (by rfl) T.z_max (by decide +kernel) (pa_cons (pe_int) (pa_cons (pe_callB (call_min2 rfl) (by rfl) T.z_min (by decide +kernel) (pa_cons (pe_int) (pa_cons (pe_callB (lenK (K := K) rfl) (by rfl) T.z_len (by decide +kernel) (pa_cons (pv 0) pa_nil)) pa_nil))) pa_nil))) pa_nil)) (pg_name (i := 1) sc_law.nd rfl (Or.inl rfl)) (pss_one (ps_if (pt_not (pt_val (pe_cal c_law_right (hr.mono (by decide)) (pa_cons (pe_cal c_law_urn (hr.mono (by decide)) (pa_cons (pv 0) (pa_cons (pv 1) pa_nil))) pa_nil)))) (pss_one (ps_ret (pe_bl))) pss_nil)))
      (pss_cons (ps_set (i := 2) sc_law.nd rfl (Or.inl rfl) (pe_lst (pa_cons (pe_cal c_law_ring (hr.mono (by decide)) (pa_cons (pe_int) pa_nil)) (pa_cons (pe_cal c_law_pairs (hr.mono (by decide)) (pa_cons (pe_cal c_law_ring (hr.mono (by decide)) (pa_cons (pe_int) pa_nil)) (pa_cons (pe_cal c_law_ring (hr.mono (by decide)) (pa_cons (pe_int) pa_nil)) pa_nil))) (pa_cons (pe_cal c_law_turns (hr.mono (by decide)) (pa_cons (pe_int) pa_nil)) (pa_cons (pe_cal c_law_ring (hr.mono (by decide)) (pa_cons (pe_int) pa_nil)) (pa_cons (pe_cal c_law_turns (hr.mono (by decide)) (pa_cons (pe_int) pa_nil)) pa_nil)))))))
      (pss_cons (ps_setLc (i := 3) (own := [("_law_rows", 5)]) rfl sc_law.nd rfl rfl (sw_true rfl rfl rfl (by decide +kernel)) (piL (K := K) rfl (pv 2)) (blkOk_by (own := [("_law_rows", 5)]) (N := ["_law_script", "_law_spot", "_law_some", "_law_loops", "_law_row", "_law_rows", "_law_loop"]) (sc := defScope (top 75)) (by first | decide +kernel | kernel_rfl | rfl)) (fun _ _ _ _ _ => (pg_name (i := 5) sc_law.nd rfl (Or.inl rfl))) (fun _ _ _ _ _ => pts_nil) (fun _ _ _ _ _ => (StX.pe_makeR T.k_Loop m_Loop_init (hr.mono (by decide)) (by rfl) T.g_Loop pass0 (pa_cons (StX.pe_makeR T.k_Table m_Table_init (hr.mono (by decide)) (by rfl) T.g_Table pass0 (pa_cons (pe_callTy (tupOfK (K := K) rfl) (by rfl) T.z_tuple (by decide +kernel) (pa_cons (pe_lc (own := [("_law_row", 4)]) rfl sc_law.nd (piL (K := K) rfl (pv 5)) (blkOk_by (own := [("_law_row", 4)]) (N := ["_law_script", "_law_spot", "_law_some", "_law_loops", "_law_row", "_law_rows", "_law_loop"]) (by first | decide +kernel | kernel_rfl | rfl)) (fun _ _ _ _ _ => (pg_name (i := 4) sc_law.nd rfl (Or.inl rfl))) (fun _ _ _ _ _ => pts_nil) (fun _ _ _ _ _ => (pe_callTy (tupOfK (K := K) rfl) (by rfl) T.z_tuple (by decide +kernel) (pa_cons (pv 4) pa_nil)))) pa_nil)) pa_nil)) pa_nil))))
      (pss_one (ps_ret (pe_cmpR (op_eqD hr.units) (pe_lc (own := [("_law_loop", 6)]) rfl sc_law.nd (piL (K := K) rfl (pv 3)) (blkOk_by (own := [("_law_loop", 6)]) (N := ["_law_script", "_law_spot", "_law_some", "_law_loops", "_law_row", "_law_rows", "_law_loop"]) (sc := defScope (top 75)) (by first | decide +kernel | kernel_rfl | rfl)) (fun _ _ _ _ _ => (pg_name (i := 6) sc_law.nd rfl (Or.inl rfl))) (fun _ _ _ _ _ => pts_nil) (fun _ _ _ _ _ => (pe_cmpR op_isN (pe_cal c_complete_mapping (hr.mono (by decide)) (pa_cons (pv 6) pa_nil)) (pe_non) (nomark _)))) (pe_lst (pa_cons (pe_bl) (pa_cons (pe_bl) (pa_cons (pe_bl) (pa_cons (pe_bl) (pa_cons (pe_bl) pa_nil)))))) (nomark _))))))), ?_⟩
  refine ⟨_, rfl, a, _, rfl, .inl hS, _, _, rfl, _, _, rfl, ?_⟩
  refine ⟨_, rfl, by split <;> (try split) <;> omega, by split <;> (try split) <;> omega, ?_⟩
  refine for_it walk_range (fun i σ H' => (∃ y1 y2 y3 y4 y5 y6, σ = [some (.ref a), y1, y2, y3, y4, y5, y6]) ∧ Same H H') ⟨⟨_, _, _, _, _, _, rfl⟩, sRefl⟩ (fun _ _ _ _ _ => trivial) (fun k v σ H1 H2 hk p y => ?_) (fun σ H1 p => ?_)
  · obtain ⟨⟨_, _, _, _, _, _, rfl⟩, sm⟩ := p
    obtain ⟨rfl, hv⟩ := y
    obtain rfl : v = vn k := hv.trans (by show V.int (0 + (k : Int)) = _; rw [Int.zero_add])
    have hk3 : k ≤ 2 := by revert hk; split <;> (try split) <;> intro hk <;> omega
    refine ⟨_, rfl, _, rfl, a, ns, k, rfl, sqL_same hS sm, by omega, by omega, fun u H3 s3 hu hU => ?_⟩
    refine ⟨u, rfl, hU, fun H4 sx4 => ⟨_, rfl, ?_⟩⟩
    refine iteF ?_
    exact ⟨⟨_, _, _, _, _, _, rfl⟩, fun c v e => sx4 _ _ (s3 _ _ (sm _ _ e)) fun z => by rw [z] at e; have := sm _ _ e; rw [hu] at this; cases this⟩
  · obtain ⟨⟨_, _, _, _, _, _, rfl⟩, sm⟩ := p
    refine ⟨12, rfl, by decide, by decide, fun a1 H2 s2 h1 => ?_⟩
    refine ⟨6, rfl, by decide, by decide, fun b1 H3 s3 g1 => ?_⟩
    refine ⟨2, rfl, by decide, by decide, fun b2 H4 s4 g2 => ?_⟩
    have l2 : ∀ l ∈ ringL 2, l.length ≤ 12 := fun l h => by rw [ringL_row h]; decide
    have l6 : ∀ l ∈ ringL 6, l.length ≤ 12 := fun l h => by rw [ringL_row h]; decide
    refine ⟨b1, b2, ringL 6, ringL 2, rfl, g1.toRR.mono s4, g2.toRR, by decide, by decide, l6, l2, fun a2 H5 s5 h2 => ?_⟩
    refine ⟨6, rfl, by decide, by decide, fun a3 H6 s6 h3 => ?_⟩
    refine ⟨9, rfl, by decide, by decide, fun a4 H7 s7 h4 => ?_⟩
    refine ⟨5, rfl, by decide, by decide, fun a5 H8 s8 h5 => ⟨(by decide : 5 ≤ sizeLine), fun L hL => ?_⟩⟩
    have s9 := same_upd (o := .lst [V.ref a1, .ref a2, .ref a3, .ref a4, .ref a5]) hL
    have hL9 : upd H8 L (.lst [V.ref a1, .ref a2, .ref a3, .ref a4, .ref a5]) L = some (.lst [V.ref a1, .ref a2, .ref a3, .ref a4, .ref a5]) := upd_same
    have k5 := h5.toRR.mono s9
    have k4 := (h4.toRR.mono s8).mono s9
    have k3 := ((h3.toRR.mono s7).mono s8).mono s9
    have k2 := (((h2.toRR.mono s6).mono s7).mono s8).mono s9
    have k1 := (((((((h1.toRR.mono s3).mono s4).mono s5).mono s6).mono s7).mono s8).mono s9)
    generalize upd H8 L (.lst [V.ref a1, .ref a2, .ref a3, .ref a4, .ref a5]) = H9 at hL9 k1 k2 k3 k4 k5 ⊢
    have items : ∀ (k : Nat) (v : V), [V.ref a1, .ref a2, .ref a3, .ref a4, .ref a5][k]? = some v → ∃ (p : Addr) (B : Rows), v = V.ref p ∧ LstRR H9 p B ∧ lastL[k]? = some B := fun k v e => by
      rcases k with _ | _ | _ | _ | _ | k
      · cases e; exact ⟨_, _, rfl, k1, rfl⟩
      · cases e; exact ⟨_, _, rfl, k2, rfl⟩
      · cases e; exact ⟨_, _, rfl, k3, rfl⟩
      · cases e; exact ⟨_, _, rfl, k4, rfl⟩
      · cases e; exact ⟨_, _, rfl, k5, rfl⟩
      · cases e
    have lz : [V.ref a1, .ref a2, .ref a3, .ref a4, .ref a5].length = 5 := rfl
    clear s9 hL k1 k2 k3 k4 k5 h1 h2 h3 h4 h5 g1 g2
    generalize [V.ref a1, .ref a2, .ref a3, .ref a4, .ref a5] = zs at hL9 items lz ⊢
    refine ⟨_, rfl, L, rfl, ⟨_, SqL.of hL9⟩, fun D hD => ?_⟩
    refine lc_gen walk_list (by rw [lz]; decide) hD (fun H' sm => SqL.of (sm _ _ hL9)) (fun H' k y => ∃ (p : Addr) (Hb : Hp) (B : Rows), y = V.ref p ∧ lastL[k]? = some B ∧ LoopAt K Hb p B ∧ Lk Hb D ∧ SameX D Hb H') (fun H0 H' k y sx ⟨p, Hb, B, e1, e2, e3, e4, e5⟩ => ⟨p, Hb, B, e1, e2, e3, e4, fun c v e n => sx _ _ (e5 _ _ e n) n⟩) (fun k v H0 H' acc Kf hk sm hacc hy hKf => ?_) (fun ys H10 s10 hys lys hr' => ?_)
    · obtain ⟨rfl, hx⟩ := hy
      obtain ⟨p, B, rfl, ⟨ps, hp, hE⟩, hB⟩ := items k v hx
      have hp0 := sm _ _ hp
      have hE0 := eachL hE sm
      have G := (hL k B hB).1
      obtain ⟨lB, lr⟩ := lastL_small B (List.mem_of_getElem? hB)
      have lp := hE.length
      refine ⟨rfl, ?_⟩
      refine ⟨_, rfl, p, rfl, ⟨_, SqL.of hp0⟩, fun D2 hD2 => ?_⟩
      refine lc_gen walk_list (by rw [List.length_map]; omega) hD2 (fun H' sm => SqL.of (sm _ _ hp0)) (fun H' k y => ∃ q, y = V.ref q ∧ q ≠ D2 ∧ TupN H' q (B.getD k [])) (fun _ _ _ _ sx ⟨q, e1, e2, e3⟩ => ⟨q, e1, e2, sx _ _ e3 e2⟩) (fun j v2 H3 H4 acc2 Kf2 hj sm2 hacc2 hy2 hKf2 => ?_) (fun ys2 H3 sm2 hy2 ly2 hr2 => ?_)
      · obtain ⟨rfl, hx2⟩ := hy2
        obtain ⟨q1, r, rfl, hr1, t1⟩ := hE0.refs hx2
        have t3 := sm2 _ _ t1
        refine ⟨rfl, _, rfl, q1, _, rfl, .inl ⟨SqL.of t3, fun P hP => hKf2 _ _ (same_upd hP) ⟨P, rfl, (fun z => by rw [z, hacc2] at hP; cases hP), ?_⟩⟩⟩
        rw [getD_of hr1]
        exact upd_same
      · obtain ⟨ps2, e2, hE2⟩ := each_of (RR := TupN) (H := H3) ys2 (fun k => B.getD k []) fun k y e => let ⟨q, e1, _, e3⟩ := hr2 k y e; ⟨q, e1, e3⟩
        have eB : ((List.range ys2.length).map fun k => B.getD k []) = B := by
          apply List.ext_getElem?
          intro k
          rw [List.getElem?_map, ly2, List.length_map, lp]
          by_cases hk : k < B.length
          · have e := List.getElem?_eq_getElem hk
            rw [List.getElem?_range hk, e]
            exact congrArg some (getD_of e)
          · rw [List.getElem?_eq_none (by simp; omega), List.getElem?_eq_none (by omega)]
            rfl
        rw [eB] at hE2
        refine ⟨D2, _, rfl, .inl ⟨SqL.of hy2, fun P hP => ?_⟩⟩
        have s4 := same_upd (o := .tup ys2) hP
        have hT : TupR (upd H3 P (.tup ys2)) P B := ⟨ps2, by rw [upd_same, e2], eachM hE2 s4⟩
        have hacc4 := s4 _ _ (sm2 _ _ hacc)
        have sH4 : Same H' (upd H3 P (.tup ys2)) := fun c v e => s4 _ _ (sm2 _ _ e)
        generalize upd H3 P (.tup ys2) = H4 at hT hacc4 sH4 ⊢
        exact fun x dx hx hdx hne => ⟨x, dx, H4, P, B, rfl, rfl, hx, hdx, hne, hT, G.toLat, fun H5 s5 hTab => ⟨rfl, fun y dy hy hdy hne2 => ⟨y, dy, H5, x, B, rfl, rfl, hy, hdy, hne2, hTab, G.toLat, fun H6 s6 hLp => ⟨rfl, hKf _ _ (fun c v e => s6 _ _ (s5 _ _ (sH4 _ _ e))) ⟨y, H6, B, rfl, hB, hLp, ⟨_, s6 _ _ (s5 _ _ hacc4)⟩, SameX.refl⟩⟩⟩⟩⟩
    · have s10' := s10
      have lys5 : ys.length = 5 := lys.trans lz
      refine ⟨_, rfl, D, rfl, ⟨_, SqL.of hys⟩, fun D3 hD3 => ?_⟩
      refine lc_gen walk_list (by omega) hD3 (fun H' sm => SqL.of (sm _ _ hys)) (fun _ k y => ∃ b, lastB[k]? = some b ∧ y = V.bl b) (fun _ _ _ _ _ h => h) (fun k v H11 H12 acc Kf hk sm2 hacc hy hKf => ?_) (fun ys3 H11 sm2 hy3 ly3 hr3 => ?_)
      · obtain ⟨rfl, hx⟩ := hy
        obtain ⟨p, Hb, B, rfl, hB, hLp, hk1, hsx⟩ := hr' k v hx
        obtain ⟨G, hb⟩ := hL k B hB
        have hLp' := ((hk1.loop hsx hLp).mono sm2)
        refine ⟨rfl, _, rfl, p, B, rfl, hLp', G, fun H' sa hn => ⟨rfl, hKf _ _ sa ?_⟩, fun pm m H' sa hn hm hc => ⟨rfl, hKf _ _ sa ?_⟩⟩
        · rcases hb with ⟨e, _⟩ | ⟨e, e2, e3⟩
          · exact ⟨true, e, by rw [decide_eq_true rfl]⟩
          · rcases hn with hn | hn
            · rw [e2] at hn; cases hn
            · exact absurd e3 hn
        · rcases hb with ⟨e, e1⟩ | ⟨e, e2, e3⟩
          · rw [e1] at hn; cases hn
          · exact ⟨false, e, by rw [decide_eq_false (by intro z; cases z)]⟩
      · have e : ys3 = lastB.map V.bl := by
          apply List.ext_getElem?
          intro k
          rw [List.getElem?_map]
          by_cases hk : k < 5
          · obtain ⟨b, e1, e2⟩ := hr3 k _ (List.getElem?_eq_getElem (by omega))
            rw [e1, List.getElem?_eq_getElem (by omega), e2]
            rfl
          · rw [List.getElem?_eq_none (by omega), List.getElem?_eq_none (show lastB.length ≤ k by show 5 ≤ k; omega)]
            rfl
        refine ⟨(by decide : 5 ≤ sizeLine), fun L2 hL2 => ?_⟩
        have s12 := same_upd (o := .lst [V.bl true, .bl false, .bl false, .bl false, .bl true]) hL2
        have hq : upd H11 L2 (.lst [V.bl true, .bl false, .bl false, .bl false, .bl true]) L2 = some (.lst [V.bl true, .bl false, .bl false, .bl false, .bl true]) := upd_same
        have hy4 := s12 _ _ hy3
        rw [e] at hy4
        generalize upd H11 L2 (.lst [V.bl true, .bl false, .bl false, .bl false, .bl true]) = H13 at hq hy4 ⊢
        have da : DpAll K H13 [V.bl true, .bl false, .bl false, .bl false, .bl true] [.bool true, .bool false, .bool false, .bool false, .bool true] := .cons (.bl _) (.cons (.bl _) (.cons (.bl _) (.cons (.bl _) (.cons (.bl _) .nil))))
        refine ⟨.list [.bool true, .bool false, .bool false, .bool false, .bool true], .list [.bool true, .bool false, .bool false, .bool false, .bool true], .lst (SqL.of hy4) da, .lst (SqL.of hq) da, by decide +kernel, by decide +kernel, ?_⟩
        exact q H13
end
end K61

set_option Elab.async false
set_option maxRecDepth 100000
set_option maxHeartbeats 4000000
/-! The groups' tables in plain Lean: what a renamed table keeps. -/
namespace K61
open L2
theorem nodup_mapr {n : Nat} {f : Nat → Nat} (h : ∀ i, i < n → ∀ j, j < n → f i = f j → i = j) : ((List.range n).map f).Nodup := by
  rw [List.Nodup, List.pairwise_map]
  exact List.Pairwise.imp_of_mem (fun ha hb hab e => hab (h _ (List.mem_range.mp ha) _ (List.mem_range.mp hb) e)) List.nodup_range
theorem inj_mapr {n : Nat} {f : Nat → Nat} (h : ((List.range n).map f).Nodup) {i j : Nat} (hi : i < n) (hj : j < n) (e : f i = f j) : i = j := by
  refine (List.getElem?_inj (i := i) (j := j) (by simpa using hi) h).mp ?_
  rw [List.getElem?_map, List.getElem?_map, List.getElem?_range hi, List.getElem?_range hj]
  exact congrArg some e
theorem perm_mapr {n : Nat} {f : Nat → Nat} (hl : ∀ i, i < n → f i < n) (h : ∀ i, i < n → ∀ j, j < n → f i = f j → i = j) : ((List.range n).map f).Perm (List.range n) :=
  perm_of (by simp) (nodup_mapr h) (fun x hx => by
    obtain ⟨i, hi, rfl⟩ := List.mem_map.mp hx
    exact hl i (List.mem_range.mp hi))
theorem getD_mapr {n : Nat} {f : Nat → Nat} {i : Nat} (hi : i < n) : ((List.range n).map f).getD i 0 = f i := getD_of (by rw [List.getElem?_map, List.getElem?_range hi]; rfl)
/-- a square table -/
structure Sqr (F : Rows) (n : Nat) : Prop where
  len : F.length = n
  row : ∀ r ∈ F, r.length = n
theorem Sqr.get {F : Rows} {n x : Nat} (h : Sqr F n) (hx : x < n) : F[x]? = some (F.getD x []) := by
  have e := List.getElem?_eq_getElem (l := F) (i := x) (by rw [h.len]; exact hx)
  rw [e, getD_of e]
theorem Sqr.mem {F : Rows} {n x : Nat} (h : Sqr F n) (hx : x < n) : F.getD x [] ∈ F := List.mem_of_getElem? (h.get hx)
theorem Sqr.ex {F : Rows} {n : Nat} {r : List Nat} (h : Sqr F n) (hr : r ∈ F) : ∃ x, x < n ∧ r = F.getD x [] := by
  obtain ⟨x, hx⟩ := List.mem_iff_getElem?.mp hr
  have := (List.getElem?_eq_some_iff.mp hx).1
  exact ⟨x, by rw [← h.len]; exact this, (getD_of hx).symm⟩
theorem Sqr.eq {F : Rows} {n x : Nat} (h : Sqr F n) (hx : x < n) : F.getD x [] = (List.range n).map (at2 F x) := by
  apply List.ext_getElem?
  intro y
  have l := h.row _ (h.mem hx)
  by_cases hy : y < n
  · have e := List.getElem?_eq_getElem (l := F.getD x []) (i := y) (by omega)
    rw [List.getElem?_map, List.getElem?_range hy, e]
    show some _ = some (at2 F x y)
    unfold at2
    rw [getD_of e]
  · rw [List.getElem?_eq_none (by omega), List.getElem?_eq_none (by rw [List.length_map, List.length_range]; omega)]
theorem img_at {F : Rows} {m : List Nat} {n : Nat} (h : Sqr F n) (hm : m.length = n) : img F m = (List.range n).map fun i => at2 F i (m.getD i 0) := by
  apply List.ext_getElem?
  intro y
  unfold img
  by_cases hy : y < n
  · have e := List.getElem?_eq_getElem (l := m) (i := y) (by omega)
    rw [List.getElem?_map, List.getElem?_map, List.getElem?_range hy, List.zip, List.getElem?_zipWith, h.get hy, e]
    show some _ = some (at2 F y (m.getD y 0))
    rw [getD_of e]
    rfl
  · rw [List.getElem?_eq_none (by rw [List.length_map, List.length_zip, hm, h.len]; omega), List.getElem?_eq_none (by rw [List.length_map, List.length_range]; omega)]
theorem crs_mk {F : Rows} {n : Nat} {f : Nat → Nat} (h : Sqr F n) (hl : ∀ i, i < n → f i < n) (hf : ∀ i, i < n → ∀ j, j < n → f i = f j → i = j) (hg : ∀ i, i < n → ∀ j, j < n → at2 F i (f i) = at2 F j (f j) → i = j) : Crs F ((List.range n).map f) := by
  refine ⟨by rw [h.len]; exact perm_mapr hl hf, ?_⟩
  rw [img_at h (by simp)]
  refine nodup_mapr fun i hi j hj e => ?_
  rw [getD_mapr hi, getD_mapr hj] at e
  exact hg i hi j hj e
theorem crs_inj {F : Rows} {n : Nat} {m : List Nat} (h : Sqr F n) (c : Crs F m) {i j : Nat} (hi : i < n) (hj : j < n) (e : at2 F i (m.getD i 0) = at2 F j (m.getD j 0)) : i = j := by
  have hp := c.1
  rw [h.len] at hp
  have z := c.2
  rw [img_at h (perm_lt hp).1] at z
  exact inj_mapr z hi hj e
/-- signs one to one -/
structure Bij (n : Nat) (S T : Nat → Nat) : Prop where
  sl : ∀ a, a < n → S a < n
  tl : ∀ a, a < n → T a < n
  ts : ∀ a, a < n → T (S a) = a
  st : ∀ a, a < n → S (T a) = a
theorem Bij.symm {n : Nat} {S T : Nat → Nat} (h : Bij n S T) : Bij n T S := ⟨h.tl, h.sl, h.st, h.ts⟩
theorem Bij.inj {n : Nat} {S T : Nat → Nat} (h : Bij n S T) {a b : Nat} (ha : a < n) (hb : b < n) (e : S a = S b) : a = b := by rw [← h.ts a ha, ← h.ts b hb, e]
theorem bij_of {n : Nat} {s : List Nat} (h : s.Perm (List.range n)) : Bij n (fun a => s.getD a 0) (fun x => s.idxOf x) := by
  have p := perm_lt h
  have st : ∀ x, x < n → s.idxOf x < n ∧ s.getD (s.idxOf x) 0 = x := fun x hx => by
    have hm : x ∈ s := h.mem_iff.mpr (List.mem_range.mpr hx)
    have hl := List.idxOf_lt_length_of_mem hm
    exact ⟨by omega, getD_of (by rw [List.getElem?_eq_getElem hl, List.getElem_idxOf hl])⟩
  exact ⟨fun a ha => getD_lt h ha, fun x hx => (st x hx).1, fun a ha => inj_of_perm h (st _ (getD_lt h ha)).1 ha (st _ (getD_lt h ha)).2, fun x hx => (st x hx).2⟩
/-- G is F renamed -/
structure Iso (n : Nat) (F G : Rows) (S T : Nat → Nat) : Prop where
  bij : Bij n S T
  f : Sqr F n
  g : Sqr G n
  z : S 0 = 0
  pos : 0 < n
  lt : ∀ a, a < n → ∀ b, b < n → at2 F a b < n
  cell : ∀ a, a < n → ∀ b, b < n → at2 G (S a) (S b) = S (at2 F a b)
theorem Iso.back {n : Nat} {F G : Rows} {S T : Nat → Nat} (h : Iso n F G S T) {x y : Nat} (hx : x < n) (hy : y < n) : at2 G x y = S (at2 F (T x) (T y)) := by
  rw [← h.cell _ (h.bij.tl x hx) _ (h.bij.tl y hy), h.bij.st x hx, h.bij.st y hy]
theorem Iso.symm {n : Nat} {F G : Rows} {S T : Nat → Nat} (h : Iso n F G S T) : Iso n G F T S where
  bij := h.bij.symm
  f := h.g
  g := h.f
  z := by have e := h.bij.ts 0 h.pos; rwa [h.z] at e
  pos := h.pos
  lt := fun a ha b hb => by rw [h.back ha hb]; exact h.bij.sl _ (h.lt _ (h.bij.tl a ha) _ (h.bij.tl b hb))
  cell := fun x hx y hy => by rw [h.back hx hy, h.bij.ts _ (h.lt _ (h.bij.tl x hx) _ (h.bij.tl y hy))]
theorem iso_of {B rs : Rows} {s : List Nat} (hs : Sqr B B.length) (hp : 0 < B.length) (lt : ∀ a, a < B.length → ∀ b, b < B.length → at2 B a b < B.length) (h : RenBy B rs s) : Iso B.length B rs (fun a => s.getD a 0) (fun x => s.idxOf x) :=
  ⟨bij_of h.perm, hs, ⟨h.len, h.row⟩, h.zero, hp, lt, h.cell⟩
/-- a group's table by its cells -/
structure GF (F : Rows) (n : Nat) : Prop where
  sq : Sqr F n
  pos : 0 < n
  le : n ≤ 12
  lt : ∀ x, x < n → ∀ y, y < n → at2 F x y < n
  z1 : ∀ y, y < n → at2 F 0 y = y
  z2 : ∀ x, x < n → at2 F x 0 = x
  ri : ∀ x, x < n → ∀ y, y < n → ∀ z, z < n → at2 F x y = at2 F x z → y = z
  ci : ∀ x, x < n → ∀ y, y < n → ∀ z, z < n → at2 F y x = at2 F z x → y = z
  as : ∀ x, x < n → ∀ y, y < n → ∀ z, z < n → at2 F (at2 F x y) z = at2 F x (at2 F y z)
  ord : ∀ x, x < n → (ordO (F.getD x [])).isSome = true
theorem GF.grp {F : Rows} {n : Nat} (h : GF F n) : Grp F := by
  have le : F.length = n := h.sq.len
  have rw' : ∀ x, x < n → F.getD x [] = (List.range n).map (at2 F x) := fun x hx => h.sq.eq hx
  refine { pos := by rw [le]; exact h.pos, le := by rw [le]; exact h.le, row := fun r hr => ?_, col := fun c hc => ?_, first := ?_, heads := ?_, mul := fun x hx y hy => ?_, ord := fun r hr => ?_ }
  · obtain ⟨x, hx, rfl⟩ := h.sq.ex hr
    rw [rw' x hx, le]
    exact perm_mapr (h.lt x hx) (fun i hi j hj e => h.ri x hx i hi j hj e)
  · obtain ⟨k, hk, rfl⟩ := List.mem_map.mp hc
    rw [List.mem_range, le] at hk
    have e : colOf F k = (List.range n).map fun x => at2 F x k := by
      apply List.ext_getElem?
      intro x
      unfold colOf
      by_cases hx : x < n
      · rw [List.getElem?_map, List.getElem?_map, List.getElem?_range hx, h.sq.get hx]
        rfl
      · rw [List.getElem?_eq_none (by rw [List.length_map]; omega), List.getElem?_eq_none (by rw [List.length_map, List.length_range]; omega)]
    rw [e, le]
    exact perm_mapr (fun i hi => h.lt i hi k hk) (fun i hi j hj e => h.ci k hk i hi j hj e)
  · rw [le, h.sq.get h.pos, rw' 0 h.pos]
    congr 1
    apply List.ext_getElem?
    intro y
    rw [List.getElem?_map]
    by_cases hy : y < n
    · rw [List.getElem?_range hy]
      exact congrArg some (h.z1 y hy)
    · rw [List.getElem?_eq_none (by simp; omega)]
      rfl
  · apply List.ext_getElem?
    intro x
    rw [le, List.getElem?_map]
    by_cases hx : x < n
    · rw [List.getElem?_range hx, h.sq.get hx]
      exact congrArg some (h.z2 x hx)
    · rw [List.getElem?_eq_none (by omega), List.getElem?_eq_none (by simp; omega)]
      rfl
  · obtain ⟨a, ha, rfl⟩ := h.sq.ex hx
    obtain ⟨b, hb, rfl⟩ := h.sq.ex hy
    have e1 : (F.getD b []).getD 0 0 = b := h.z2 b hb
    rw [e1]
    show F[at2 F a b]? = _
    rw [h.sq.get (h.lt a ha b hb), rw' _ (h.lt a ha b hb), rw' b hb, List.map_map]
    congr 1
    apply List.map_congr_left
    intro z hz
    exact h.as a ha b hb z (List.mem_range.mp hz)
  · obtain ⟨x, hx, rfl⟩ := h.sq.ex hr
    exact Option.isSome_iff_exists.mp (h.ord x hx)
theorem cyc_eq {n : Nat} {F G : Rows} {S T : Nat → Nat} (h : Iso n F G S T) {a : Nat} (ha : a < n) : ∀ (k at_ : Nat), at_ < n → cycGo (G.getD (S a) []) 0 k (S at_) = cycGo (F.getD a []) 0 k at_
  | 0, _, _ => rfl
  | k + 1, at_, hat => by
    have e : (G.getD (S a) []).getD (S at_) 0 = S ((F.getD a []).getD at_ 0) := h.cell a ha at_ hat
    have l : (F.getD a []).getD at_ 0 < n := h.lt a ha at_ hat
    unfold cycGo
    rw [e, cyc_eq h ha k _ l]
    by_cases z : (F.getD a []).getD at_ 0 = 0
    · rw [if_pos z, if_pos (by rw [z]; exact h.z)]
    · rw [if_neg z, if_neg (fun y => z (h.bij.inj l h.pos (y.trans h.z.symm)))]
theorem ord_eq {n : Nat} {F G : Rows} {S T : Nat → Nat} (h : Iso n F G S T) {a : Nat} (ha : a < n) : ordO (G.getD (S a) []) = ordO (F.getD a []) := by
  unfold ordO
  have z := cyc_eq h ha 64 0 h.pos
  rwa [h.z] at z
theorem GF.iso {n : Nat} {F G : Rows} {S T : Nat → Nat} (g : GF F n) (h : Iso n F G S T) : GF G n where
  sq := h.g
  pos := g.pos
  le := g.le
  lt := h.symm.lt
  z1 := fun y hy => by rw [h.back h.pos hy, h.symm.z, g.z1 _ (h.bij.tl y hy), h.bij.st y hy]
  z2 := fun x hx => by rw [h.back hx h.pos, h.symm.z, g.z2 _ (h.bij.tl x hx), h.bij.st x hx]
  ri := fun x hx y hy z hz e => by
    rw [h.back hx hy, h.back hx hz] at e
    have tx := h.bij.tl x hx
    have ty := h.bij.tl y hy
    have tz := h.bij.tl z hz
    exact h.bij.symm.inj hy hz (g.ri _ tx _ ty _ tz (h.bij.inj (h.lt _ tx _ ty) (h.lt _ tx _ tz) e))
  ci := fun x hx y hy z hz e => by
    rw [h.back hy hx, h.back hz hx] at e
    have tx := h.bij.tl x hx
    have ty := h.bij.tl y hy
    have tz := h.bij.tl z hz
    exact h.bij.symm.inj hy hz (g.ci _ tx _ ty _ tz (h.bij.inj (h.lt _ ty _ tx) (h.lt _ tz _ tx) e))
  as := fun x hx y hy z hz => by
    have tx := h.bij.tl x hx
    have ty := h.bij.tl y hy
    have tz := h.bij.tl z hz
    rw [h.back (h.symm.lt x hx y hy) hz, h.back hx (h.symm.lt y hy z hz), h.back hx hy, h.back hy hz, h.bij.ts _ (h.lt _ tx _ ty), h.bij.ts _ (h.lt _ ty _ tz), g.as _ tx _ ty _ tz]
  ord := fun x hx => by
    have z := ord_eq h (h.bij.tl x hx)
    rw [h.bij.st x hx] at z
    rw [z]
    exact g.ord _ (h.bij.tl x hx)
theorem bar_eq {n : Nat} {F G : Rows} {S T : Nat → Nat} (h : Iso n F G S T) : barM G = barM F := by
  unfold barM
  rw [h.f.len, h.g.len]
  congr 1
  rw [Bool.eq_iff_iff, List.any_eq_true, List.any_eq_true]
  constructor
  · rintro ⟨r, hr, e⟩
    obtain ⟨x, hx, rfl⟩ := h.g.ex hr
    refine ⟨_, h.f.mem (h.bij.tl x hx), ?_⟩
    have z := ord_eq h (h.bij.tl x hx)
    rw [h.bij.st x hx] at z
    unfold ordR at e ⊢
    rw [← z]
    exact e
  · rintro ⟨r, hr, e⟩
    obtain ⟨x, hx, rfl⟩ := h.f.ex hr
    refine ⟨_, h.g.mem (h.bij.sl x hx), ?_⟩
    unfold ordR at e ⊢
    rw [ord_eq h hx]
    exact e
theorem crs_iso {n : Nat} {F G : Rows} {S T : Nat → Nat} (h : Iso n F G S T) {m : List Nat} (c : Crs F m) : Crs G ((List.range n).map fun x => S (m.getD (T x) 0)) := by
  have hp := c.1
  rw [h.f.len] at hp
  refine crs_mk h.g (fun i hi => h.bij.sl _ (getD_lt hp (h.bij.tl i hi))) (fun i hi j hj e => ?_) (fun i hi j hj e => ?_)
  · have ti := h.bij.tl i hi
    have tj := h.bij.tl j hj
    exact h.bij.symm.inj hi hj (inj_of_perm hp ti tj (h.bij.inj (getD_lt hp ti) (getD_lt hp tj) e))
  · have ti := h.bij.tl i hi
    have tj := h.bij.tl j hj
    have mi := getD_lt hp ti
    have mj := getD_lt hp tj
    rw [h.back hi (h.bij.sl _ mi), h.back hj (h.bij.sl _ mj), h.bij.ts _ mi, h.bij.ts _ mj] at e
    exact h.bij.symm.inj hi hj (crs_inj h.f c ti tj (h.bij.inj (h.lt _ ti _ mi) (h.lt _ tj _ mj) e))
theorem has_iso {n : Nat} {F G : Rows} {S T : Nat → Nat} (h : Iso n F G S T) (c : HasX F) : HasX G := let ⟨_, c⟩ := c; ⟨_, crs_iso h c⟩
theorem odd_iso {n : Nat} {F G : Rows} {S T : Nat → Nat} (h : Iso n F G S T) (c : Crs F (List.range n)) : Crs G (List.range n) := by
  have z := crs_iso h c
  have e : ((List.range n).map fun x => S ((List.range n).getD (T x) 0)) = List.range n := by
    have : ∀ x ∈ List.range n, S ((List.range n).getD (T x) 0) = x := fun x hx => by
      have hx := List.mem_range.mp hx
      rw [getD_of (List.getElem?_range (h.bij.tl x hx)), h.bij.st x hx]
    rw [List.map_congr_left this, List.map_id']
  rwa [e] at z
theorem GF.mov {F : Rows} {n : Nat} (h : GF F n) {m : List Nat} {g : Nat} (c : Crs F m) (hg : g < n) : Crs F (m.map fun i => (F.getD i []).getD g 0) := by
  have hp := c.1
  rw [h.sq.len] at hp
  have pm := perm_lt hp
  have e : (m.map fun i => (F.getD i []).getD g 0) = (List.range n).map fun i => at2 F (m.getD i 0) g := by
    apply List.ext_getElem?
    intro y
    rw [List.getElem?_map, List.getElem?_map]
    by_cases hy : y < n
    · have e := List.getElem?_eq_getElem (l := m) (i := y) (by omega)
      rw [List.getElem?_range hy, e]
      show some _ = some (at2 F (m.getD y 0) g)
      rw [getD_of e]
      rfl
    · rw [List.getElem?_eq_none (by omega), List.getElem?_eq_none (by simp; omega)]
      rfl
  rw [e]
  refine crs_mk h.sq (fun i hi => h.lt _ (getD_lt hp hi) g hg) (fun i hi j hj e => ?_) (fun i hi j hj e => ?_)
  · exact inj_of_perm hp hi hj (h.ci g hg _ (getD_lt hp hi) _ (getD_lt hp hj) e)
  · have mi := getD_lt hp hi
    have mj := getD_lt hp hj
    rw [← h.as i hi _ mi g hg, ← h.as j hj _ mj g hg] at e
    exact crs_inj h.sq c hi hj (h.ci g hg _ (h.lt i hi _ mi) _ (h.lt j hj _ mj) e)
/-! no transversal by a hom to the numbers mod M -/
theorem sum_perm {l l' : List Nat} (h : l.Perm l') : l.sum = l'.sum := by
  induction h with
  | nil => rfl
  | cons x _ ih => rw [List.sum_cons, List.sum_cons, ih]
  | swap x y l => simp only [List.sum_cons]; omega
  | trans _ _ a b => exact a.trans b
theorem sum_mod {M : Nat} {f g k : Nat → Nat} : ∀ l : List Nat, (∀ i ∈ l, f i % M = (g i + k i) % M) → (l.map f).sum % M = ((l.map g).sum + (l.map k).sum) % M
  | [], _ => rfl
  | a :: l, h => by
    have ih := sum_mod l fun i hi => h i (List.mem_cons_of_mem _ hi)
    have ha := h a (List.mem_cons_self ..)
    simp only [List.map_cons, List.sum_cons]
    rw [Nat.add_mod, ha, ih, ← Nat.add_mod]
    congr 1
    omega
theorem no_hom {F : Rows} {n M : Nat} (h : Sqr F n) (φ : Nat → Nat) (hh : ∀ x, x < n → ∀ y, y < n → φ (at2 F x y) % M = (φ x + φ y) % M) (hs : ((List.range n).map φ).sum % M ≠ 0) (lt : ∀ x, x < n → ∀ y, y < n → at2 F x y < n) : ¬ HasX F := by
  rintro ⟨m, c⟩
  have hp := c.1
  rw [h.len] at hp
  have p1 : ((List.range n).map fun i => at2 F i (m.getD i 0)).Perm (List.range n) := perm_mapr (fun i hi => lt i hi _ (getD_lt hp hi)) (fun i hi j hj e => crs_inj h c hi hj e)
  have p2 : ((List.range n).map fun i => m.getD i 0).Perm (List.range n) := perm_mapr (fun i hi => getD_lt hp hi) (fun i hi j hj e => inj_of_perm hp hi hj e)
  have s1 := sum_perm (p1.map φ)
  have s2 := sum_perm (p2.map φ)
  rw [List.map_map] at s1 s2
  have s3 := sum_mod (M := M) (f := φ ∘ fun i => at2 F i (m.getD i 0)) (g := φ) (k := φ ∘ fun i => m.getD i 0) (List.range n) (fun i hi => hh i (List.mem_range.mp hi) _ (getD_lt hp (List.mem_range.mp hi)))
  rw [s1, s2] at s3
  apply hs
  generalize ((List.range n).map φ).sum = s at s3
  have d := Nat.sub_mod_eq_zero_of_mod_eq s3.symm
  rwa [Nat.add_sub_cancel] at d
end K61

set_option Elab.async false
set_option maxRecDepth 100000
set_option maxHeartbeats 4000000
namespace K61
open L2
/-- the systems of equations by cells -/
def SysF (F : Rows) (n : Nat) (N : List Nat) (r : Nat) (b : Nat → Bool) : Prop := b 0 = false ∧ ∀ x, x < n → ∀ y, y < n → 1 ≤ x → 1 ≤ y → (b x ^^ b y ^^ b (at2 F x y)) = (lck N r (x, y, at2 F x y) == 1)
theorem sys_iff {F : Rows} {n r : Nat} {N : List Nat} {b : Nat → Bool} (h : Sqr F n) (h2 : 2 ≤ n) : SysOk F N r b ↔ SysF F n N r b := by
  unfold SysOk SysF plc
  refine and_congr Iff.rfl ⟨fun z x hx y hy x1 y1 => ?_, fun z t ht => ?_⟩
  · refine z (x, y, at2 F x y) (List.mem_map.mpr ⟨(x - 1) * (n - 1) + (y - 1), ?_, ?_⟩)
    · rw [List.mem_range, h.len]
      have : (x - 1 + 1) * (n - 1) ≤ (n - 1) * (n - 1) := Nat.mul_le_mul_right _ (by omega)
      rw [Nat.add_mul] at this
      omega
    · have e1 : ((x - 1) * (n - 1) + (y - 1)) / (n - 1) = x - 1 := by
        rw [Nat.mul_comm, Nat.mul_add_div (by omega), Nat.div_eq_of_lt (by omega), Nat.add_zero]
      have e2 : ((x - 1) * (n - 1) + (y - 1)) % (n - 1) = y - 1 := by
        rw [Nat.mul_comm, Nat.mul_add_mod, Nat.mod_eq_of_lt (by omega)]
      have e3 : x - 1 + 1 = x := by omega
      have e4 : y - 1 + 1 = y := by omega
      unfold tri
      rw [h.len, e1, e2, e3, e4]
      rfl
  · obtain ⟨k, hk, rfl⟩ := List.mem_map.mp ht
    rw [List.mem_range, h.len] at hk
    have l1 : k / (n - 1) < n - 1 := Nat.div_lt_of_lt_mul hk
    have l2 : k % (n - 1) < n - 1 := Nat.mod_lt _ (by omega)
    have := z (k / (n - 1) + 1) (by omega) (k % (n - 1) + 1) (by omega) (Nat.le_add_left 1 _) (Nat.le_add_left 1 _)
    unfold tri
    rw [h.len]
    exact this
theorem sys_iso {n r : Nat} {F G : Rows} {S T : Nat → Nat} (h : Iso n F G S T) {N N' : List Nat} {b b' : Nat → Bool} (hN : ∀ a, a < n → N'.getD a 0 = N.getD (S a) 0) (hb : ∀ a, a < n → b' a = b (S a)) (s : SysF G n N r b) : SysF F n N' r b' := by
  refine ⟨by rw [hb 0 h.pos, h.z]; exact s.1, fun x hx y hy x1 y1 => ?_⟩
  have nz : ∀ a, a < n → 1 ≤ a → 1 ≤ S a := fun a ha h1 => by
    refine Nat.pos_of_ne_zero fun z => ?_
    have := h.bij.inj ha h.pos (z.trans h.z.symm)
    omega
  have z := s.2 (S x) (h.bij.sl x hx) (S y) (h.bij.sl y hy) (nz x hx x1) (nz y hy y1)
  rw [h.cell x hx y hy] at z
  have l := h.lt x hx y hy
  rw [hb x hx, hb y hy, hb _ l, z]
  unfold lck
  rw [hN x hx, hN y hy, hN _ l]
/-- numbers moved -/
def mvN (S : Nat → Nat) (n : Nat) (N : List Nat) : List Nat := (List.range n).map fun a => N.getD (S a) 0
theorem mvN_len {S : Nat → Nat} {n : Nat} {N : List Nat} : (mvN S n N).length = n := by simp [mvN]
theorem mvN_get {S : Nat → Nat} {n a : Nat} {N : List Nat} (h : a < n) : (mvN S n N).getD a 0 = N.getD (S a) 0 := getD_mapr h
theorem mvN_le {S : Nat → Nat} {n : Nat} {N : List Nat} (h : ∀ s, N.getD s 0 ≤ 1) (s : Nat) : (mvN S n N).getD s 0 ≤ 1 := by
  by_cases hs : s < n
  · rw [mvN_get hs]
    exact h _
  · rw [List.getD_eq_getElem?_getD, List.getElem?_eq_none (by rw [mvN_len]; omega)]
    exact Nat.zero_le _
theorem addN_get {N bs : List Nat} {n r i : Nat} (hN : N.length = n) (hb : bs.length = n) (hi : i < n) : (addN N bs r).getD i 0 = N.getD i 0 + r * bs.getD i 0 := by
  have e1 := List.getElem?_eq_getElem (l := N) (i := i) (by omega)
  have e2 := List.getElem?_eq_getElem (l := bs) (i := i) (by omega)
  rw [getD_of e1, getD_of e2]
  refine getD_of ?_
  unfold addN
  rw [List.getElem?_map, List.zip, List.getElem?_zipWith, e1, e2]
  rfl
theorem mvN_add {S : Nat → Nat} {N bs : List Nat} {n r : Nat} (hS : ∀ a, a < n → S a < n) (hN : N.length = n) (hb : bs.length = n) : mvN S n (addN N bs r) = addN (mvN S n N) (mvN S n bs) r := by
  apply List.ext_getElem?
  intro i
  have la : (addN (mvN S n N) (mvN S n bs) r).length = n := by unfold addN; rw [List.length_map, List.length_zip, mvN_len, mvN_len]; omega
  by_cases hi : i < n
  · have e1 := List.getElem?_eq_getElem (l := mvN S n (addN N bs r)) (i := i) (by rw [mvN_len]; exact hi)
    have e2 := List.getElem?_eq_getElem (l := addN (mvN S n N) (mvN S n bs) r) (i := i) (by omega)
    rw [e1, e2, ← getD_of (d := 0) e1, ← getD_of (d := 0) e2, mvN_get hi, addN_get hN hb (hS i hi), addN_get mvN_len mvN_len hi, mvN_get hi, mvN_get hi]
  · rw [List.getElem?_eq_none (by rw [mvN_len]; omega), List.getElem?_eq_none (by omega)]
theorem zer_any {F G : Rows} {a b : Nat} : (zerosN F).getD a 0 = (zerosN G).getD b 0 := (zerosN_get F a).trans (zerosN_get G b).symm
theorem homB_iso {n : Nat} {F G : Rows} {S T : Nat → Nat} (h : Iso n F G S T) (h2 : 2 ≤ n) {b b' : Nat → Bool} (hb : ∀ a, a < n → b' a = b (S a)) (s : HomB G b) : HomB F b' :=
  (sys_iff h.f h2).mpr (sys_iso h (fun a ha => zer_any) hb ((sys_iff h.g h2).mp s))
theorem nonZ_iso {n : Nat} {F G : Rows} {S T : Nat → Nat} (h : Iso n F G S T) {b b' : Nat → Bool} (hb : ∀ a, a < n → b' a = b (S a)) (s : NonZ n b) : NonZ n b' :=
  let ⟨x, hx, e⟩ := s
  ⟨T x, h.bij.tl x hx, by rw [hb _ (h.bij.tl x hx), h.bij.st x hx]; exact e⟩
theorem bitOf_mv {S : Nat → Nat} {n : Nat} {N : List Nat} (a : Nat) (h : a < n) : bitOf (mvN S n N) a = bitOf N (S a) := by
  unfold bitOf
  rw [mvN_get h]
theorem one_iso {n M : Nat} {F G : Rows} {S T : Nat → Nat} {Iv : Nat → List Nat → Prop} (h : Iso n F G S T) (h2 : 2 ≤ n) (o : One F M Iv) : One G M fun r N => Iv r (mvN S n N) := by
  have lF := h.f.len
  have lG := h.g.len
  refine ⟨?_, fun b b' hb hb' nb nb' => ?_, fun N hN hh hz hl => ?_, fun r N hr hM hN hI => ?_, fun r N bs hr hM hN hbs hl hI hs => ?_⟩
  · obtain ⟨b, hb, nb⟩ := o.ex
    rw [lF] at nb
    rw [lG]
    exact ⟨fun x => b (T x), homB_iso h.symm h2 (fun _ _ => rfl) hb, nonZ_iso h.symm (fun _ _ => rfl) nb⟩
  · rw [lG] at nb nb' ⊢
    have z := o.un (fun a => b (S a)) (fun a => b' (S a)) (homB_iso h h2 (fun _ _ => rfl) hb) (homB_iso h h2 (fun _ _ => rfl) hb') (by rw [lF]; exact nonZ_iso h (fun _ _ => rfl) nb) (by rw [lF]; exact nonZ_iso h (fun _ _ => rfl) nb')
    rw [lF] at z
    intro x hx
    have := z (T x) (h.bij.tl x hx)
    simp only [h.bij.st x hx] at this
    exact this
  · rw [lG] at hN hz
    refine o.start _ (by rw [lF]; exact mvN_len) (homB_iso h h2 (fun a ha => bitOf_mv a ha) hh) ?_ (mvN_le hl)
    rw [lF]
    exact nonZ_iso h (fun a ha => bitOf_mv a ha) hz
  · obtain ⟨b, hb⟩ := o.lift r _ hr hM (by rw [lF]; exact mvN_len) hI
    refine ⟨fun x => b (T x), (sys_iff h.g h2).mpr (sys_iso h.symm (fun x hx => ?_) (fun _ _ => rfl) ((sys_iff h.f h2).mp hb))⟩
    rw [mvN_get (h.bij.tl x hx), h.bij.st x hx]
  · rw [lG] at hN hbs
    have z := o.next r _ (mvN S n bs) hr hM (by rw [lF]; exact mvN_len) (by rw [lF]; exact mvN_len) (mvN_le hl) hI ((sys_iff h.f h2).mpr (sys_iso h (fun a ha => mvN_get ha) (fun a ha => bitOf_mv a ha) ((sys_iff h.g h2).mp hs)))
    show Iv (2 * r) (mvN S n (addN N bs r))
    rw [mvN_add h.bij.sl hN hbs]
    exact z
theorem two_iso {n : Nat} {F G : Rows} {S T : Nat → Nat} (h : Iso n F G S T) (h2 : 2 ≤ n) (o : Two F) : Two G := by
  obtain ⟨b1, b2, h1, h3, n1, n2, na⟩ := o
  rw [h.f.len] at n1 n2 na
  refine ⟨fun x => b1 (T x), fun x => b2 (T x), homB_iso h.symm h2 (fun _ _ => rfl) h1, homB_iso h.symm h2 (fun _ _ => rfl) h3, ?_, ?_, ?_⟩ <;> rw [h.g.len]
  · exact nonZ_iso h.symm (fun _ _ => rfl) n1
  · exact nonZ_iso h.symm (fun _ _ => rfl) n2
  · intro z
    apply na
    intro a ha
    have := z (S a) (h.bij.sl a ha)
    simp only [h.bij.ts a ha] at this
    exact this
/-- a drawn table's group, before it is renamed -/
structure GoodB (F : Rows) (n : Nat) : Prop where
  gf : GF F n
  has : barM F = false → HasX F
  no : barM F = true → n < 8 → ¬ HasX F
  one : barM F = true → 2 ≤ n ∧ 1 < share n ∧ ∃ Iv, One F (share n) Iv
  two : barM F = false → share n ≤ 1 ∨ (2 ≤ n ∧ Two F)
  odd : n % 2 = 1 → Crs F (List.range n)
theorem GoodB.good {F G : Rows} {n : Nat} {S T : Nat → Nat} (g : GoodB F n) (h : Iso n F G S T) : GoodR G := by
  have gg := g.gf.iso h
  have be := bar_eq h
  refine ⟨gg.grp, fun e => has_iso h (g.has (be ▸ e)), fun e l => ?_, fun e => ?_, fun e => ?_, fun e => ?_, fun m k c hk => gg.mov c (by rw [← h.g.len]; exact hk)⟩
  · rw [h.g.len] at l
    exact fun z => g.no (be ▸ e) l (has_iso h.symm z)
  · rw [h.g.len]
    obtain ⟨a, b, Iv, c⟩ := g.one (be ▸ e)
    exact ⟨a, b, _, one_iso h a c⟩
  · rw [h.g.len]
    exact (g.two (be ▸ e)).imp id fun ⟨a, b⟩ => ⟨a, two_iso h a b⟩
  · rw [h.g.len] at e ⊢
    exact odd_iso h (g.odd e)
/-! ### lists of bits -/
def bools : Nat → List (List Nat)
  | 0 => [[]]
  | n + 1 => (bools n).flatMap fun l => [0 :: l, 1 :: l]
theorem mem_bools : ∀ {n : Nat} {l : List Nat}, l.length = n → (∀ x ∈ l, x ≤ 1) → l ∈ bools n
  | 0, [], _, _ => by simp [bools]
  | n + 1, a :: l, h, h1 => by
    have ih := mem_bools (n := n) (l := l) (by simpa using h) fun x hx => h1 x (List.mem_cons_of_mem _ hx)
    have ha := h1 a (List.mem_cons_self ..)
    unfold bools
    refine List.mem_flatMap.mpr ⟨l, ih, ?_⟩
    match a, ha with
    | 0, _ => simp
    | 1, _ => simp
theorem mem_bools' {n : Nat} {l : List Nat} (hl : l.length = n) (h : ∀ s, l.getD s 0 ≤ 1) : l ∈ bools n := mem_bools hl fun x hx => by
  obtain ⟨i, hi⟩ := List.mem_iff_getElem?.mp hx
  have := h i
  rwa [getD_of hi] at this
/-- homs by cells -/
def HomF (F : Rows) (n : Nat) (b : Nat → Bool) : Prop := b 0 = false ∧ ∀ x, x < n → ∀ y, y < n → (b x ^^ b y ^^ b (at2 F x y)) = false
theorem homF_of {F : Rows} {n : Nat} {b : Nat → Bool} (g : GF F n) (h2 : 2 ≤ n) (h : HomB F b) : HomF F n b := by
  obtain ⟨z, w⟩ := (sys_iff g.sq h2).mp h
  refine ⟨z, fun x hx y hy => ?_⟩
  by_cases x0 : x = 0
  · subst x0
    rw [g.z1 y hy, z]
    simp
  by_cases y0 : y = 0
  · subst y0
    rw [g.z2 x hx, z]
    simp
  rw [w x hx y hy (by omega) (by omega)]
  unfold lck
  rw [zerosN_get, zerosN_get, zerosN_get]
  rfl
theorem homF_to {F : Rows} {n : Nat} {b : Nat → Bool} (g : Sqr F n) (h2 : 2 ≤ n) (h : HomF F n b) : HomB F b := by
  refine (sys_iff g h2).mpr ⟨h.1, fun x hx y hy _ _ => ?_⟩
  rw [h.2 x hx y hy]
  unfold lck
  rw [zerosN_get, zerosN_get, zerosN_get]
  rfl
def bitsL (n : Nat) (b : Nat → Bool) : List Nat := (List.range n).map fun i => (b i).toNat
theorem bitsL_mem (n : Nat) (b : Nat → Bool) : bitsL n b ∈ bools n := mem_bools (by simp [bitsL]) fun x hx => by
  obtain ⟨i, _, rfl⟩ := List.mem_map.mp hx
  cases b i <;> simp
theorem bitsL_bit {n i : Nat} (b : Nat → Bool) (hi : i < n) : bitOf (bitsL n b) i = b i := by
  unfold bitOf bitsL
  rw [getD_mapr hi]
  cases b i <;> rfl
theorem homF_bits {F : Rows} {n : Nat} {b : Nat → Bool} (g : GF F n) (h : HomF F n b) : HomF F n (bitOf (bitsL n b)) := by
  refine ⟨by rw [bitsL_bit b g.pos]; exact h.1, fun x hx y hy => ?_⟩
  rw [bitsL_bit b hx, bitsL_bit b hy, bitsL_bit b (g.lt x hx y hy)]
  exact h.2 x hx y hy
/-- what the next list of numbers is among -/
def NextOk (M r : Nat) (C : Nat → List (List Nat)) (N l : List Nat) : Prop := M ≤ 2 * r ∨ addN N l r ∈ C (2 * r)
theorem one_mk {F : Rows} {n M : Nat} {v : List Nat} {C : Nat → List (List Nat)} (g : GF F n) (h2 : 2 ≤ n) (ex : HomF F n (bitOf v) ∧ NonZ n (bitOf v)) (un : ∀ l ∈ bools n, HomF F n (bitOf l) → l = v ∨ ¬ NonZ n (bitOf l)) (st : 2 < M → v ∈ C 2)
    (li : ∀ r, r < M → 2 ≤ r → ∀ N ∈ C r, ∃ l ∈ bools n, SysF F n N r (bitOf l)) (ne : ∀ r, r < M → 2 ≤ r → ∀ N ∈ C r, ∀ l ∈ bools n, SysF F n N r (bitOf l) → NextOk M r C N l) : One F M fun r N => M ≤ r ∨ N ∈ C r := by
  have lF := g.sq.len
  have u : ∀ l ∈ bools n, HomF F n (bitOf l) → NonZ n (bitOf l) → l = v := fun l hl h z => (un l hl h).resolve_right fun w => w z
  refine ⟨⟨_, homF_to g.sq h2 ex.1, by rw [lF]; exact ex.2⟩, fun b b' hb hb' nb nb' => ?_, fun N hN hh hz hl => ?_, fun r N hr hM hN hI => ?_, fun r N bs hr hM hN hbs hl hI hs => ?_⟩
  · rw [lF] at nb nb' ⊢
    have k : ∀ b, HomB F b → NonZ n b → bitsL n b = v := fun b hb nb => u _ (bitsL_mem n b) (homF_bits g (homF_of g h2 hb)) (let ⟨s, hs, e⟩ := nb; ⟨s, hs, by rw [bitsL_bit b hs]; exact e⟩)
    intro s hs
    rw [← bitsL_bit b hs, ← bitsL_bit b' hs, k b hb nb, k b' hb' nb']
  · rw [lF] at hN hz
    have e := u N (mem_bools' hN hl) (homF_of g h2 hh) hz
    by_cases m : 2 < M
    · exact .inr (e ▸ st m)
    · exact .inl (by omega)
  · rcases hI with hI | hI
    · omega
    obtain ⟨l, _, h⟩ := li r hM hr N hI
    exact ⟨_, (sys_iff g.sq h2).mpr h⟩
  · rw [lF] at hN hbs
    rcases hI with hI | hI
    · omega
    exact ne r hM hr N hI bs (mem_bools' hbs hl) ((sys_iff g.sq h2).mp hs)
theorem two_mk {F : Rows} {n : Nat} {v w : List Nat} (g : Sqr F n) (h2 : 2 ≤ n) (hv : HomF F n (bitOf v)) (hw : HomF F n (bitOf w)) (nv : NonZ n (bitOf v)) (nw : NonZ n (bitOf w)) (na : ¬ Agree n (bitOf v) (bitOf w)) : Two F :=
  ⟨_, _, homF_to g h2 hv, homF_to g h2 hw, by rw [g.len]; exact nv, by rw [g.len]; exact nw, by rw [g.len]; exact na⟩
end K61

set_option Elab.async false
set_option maxRecDepth 100000
set_option maxHeartbeats 4000000
/-! The tables of this proof, one by one. -/
namespace K61
open L2
instance (F : Rows) (n : Nat) (N : List Nat) (r : Nat) (b : Nat → Bool) : Decidable (SysF F n N r b) := by unfold SysF; infer_instance
instance (F : Rows) (n : Nat) (b : Nat → Bool) : Decidable (HomF F n b) := by unfold HomF; infer_instance
instance (n : Nat) (b : Nat → Bool) : Decidable (NonZ n b) := by unfold NonZ; infer_instance
instance (n : Nat) (b c : Nat → Bool) : Decidable (Agree n b c) := by unfold Agree; infer_instance
instance (M r : Nat) (C : Nat → List (List Nat)) (N l : List Nat) : Decidable (NextOk M r C N l) := by unfold NextOk; infer_instance
instance (n : Nat) (l : List Nat) : Decidable (l.Perm (List.range n)) := inferInstance
abbrev L_r1 : Rows := [[0]]
theorem e_r1 : ringL 1 = L_r1 := by decide +kernel
theorem gf_r1 : GF L_r1 1 := ⟨⟨by decide +kernel, by decide +kernel⟩, by decide +kernel, by decide +kernel, by decide +kernel, by decide +kernel, by decide +kernel, by decide +kernel, by decide +kernel, by decide +kernel, by decide +kernel⟩
theorem b_r1 : barM L_r1 = false := by decide +kernel
theorem h_r1 : HasX L_r1 := ⟨[0], ⟨by decide +kernel, by decide +kernel⟩⟩
abbrev L_r2 : Rows := [[0, 1], [1, 0]]
theorem e_r2 : ringL 2 = L_r2 := by decide +kernel
theorem gf_r2 : GF L_r2 2 := ⟨⟨by decide +kernel, by decide +kernel⟩, by decide +kernel, by decide +kernel, by decide +kernel, by decide +kernel, by decide +kernel, by decide +kernel, by decide +kernel, by decide +kernel, by decide +kernel⟩
theorem b_r2 : barM L_r2 = true := by decide +kernel
abbrev L_r3 : Rows := [[0, 1, 2], [1, 2, 0], [2, 0, 1]]
theorem e_r3 : ringL 3 = L_r3 := by decide +kernel
theorem gf_r3 : GF L_r3 3 := ⟨⟨by decide +kernel, by decide +kernel⟩, by decide +kernel, by decide +kernel, by decide +kernel, by decide +kernel, by decide +kernel, by decide +kernel, by decide +kernel, by decide +kernel, by decide +kernel⟩
theorem b_r3 : barM L_r3 = false := by decide +kernel
theorem h_r3 : HasX L_r3 := ⟨[0, 1, 2], ⟨by decide +kernel, by decide +kernel⟩⟩
abbrev L_r4 : Rows := [[0, 1, 2, 3], [1, 2, 3, 0], [2, 3, 0, 1], [3, 0, 1, 2]]
theorem e_r4 : ringL 4 = L_r4 := by decide +kernel
theorem gf_r4 : GF L_r4 4 := ⟨⟨by decide +kernel, by decide +kernel⟩, by decide +kernel, by decide +kernel, by decide +kernel, by decide +kernel, by decide +kernel, by decide +kernel, by decide +kernel, by decide +kernel, by decide +kernel⟩
theorem b_r4 : barM L_r4 = true := by decide +kernel
abbrev L_r5 : Rows := [[0, 1, 2, 3, 4], [1, 2, 3, 4, 0], [2, 3, 4, 0, 1], [3, 4, 0, 1, 2], [4, 0, 1, 2, 3]]
theorem e_r5 : ringL 5 = L_r5 := by decide +kernel
theorem gf_r5 : GF L_r5 5 := ⟨⟨by decide +kernel, by decide +kernel⟩, by decide +kernel, by decide +kernel, by decide +kernel, by decide +kernel, by decide +kernel, by decide +kernel, by decide +kernel, by decide +kernel, by decide +kernel⟩
theorem b_r5 : barM L_r5 = false := by decide +kernel
theorem h_r5 : HasX L_r5 := ⟨[0, 1, 2, 3, 4], ⟨by decide +kernel, by decide +kernel⟩⟩
abbrev L_r6 : Rows := [[0, 1, 2, 3, 4, 5], [1, 2, 3, 4, 5, 0], [2, 3, 4, 5, 0, 1], [3, 4, 5, 0, 1, 2], [4, 5, 0, 1, 2, 3], [5, 0, 1, 2, 3, 4]]
theorem e_r6 : ringL 6 = L_r6 := by decide +kernel
theorem gf_r6 : GF L_r6 6 := ⟨⟨by decide +kernel, by decide +kernel⟩, by decide +kernel, by decide +kernel, by decide +kernel, by decide +kernel, by decide +kernel, by decide +kernel, by decide +kernel, by decide +kernel, by decide +kernel⟩
theorem b_r6 : barM L_r6 = true := by decide +kernel
abbrev L_r7 : Rows := [[0, 1, 2, 3, 4, 5, 6], [1, 2, 3, 4, 5, 6, 0], [2, 3, 4, 5, 6, 0, 1], [3, 4, 5, 6, 0, 1, 2], [4, 5, 6, 0, 1, 2, 3], [5, 6, 0, 1, 2, 3, 4], [6, 0, 1, 2, 3, 4, 5]]
theorem e_r7 : ringL 7 = L_r7 := by decide +kernel
theorem gf_r7 : GF L_r7 7 := ⟨⟨by decide +kernel, by decide +kernel⟩, by decide +kernel, by decide +kernel, by decide +kernel, by decide +kernel, by decide +kernel, by decide +kernel, by decide +kernel, by decide +kernel, by decide +kernel⟩
theorem b_r7 : barM L_r7 = false := by decide +kernel
theorem h_r7 : HasX L_r7 := ⟨[0, 1, 2, 3, 4, 5, 6], ⟨by decide +kernel, by decide +kernel⟩⟩
abbrev L_r8 : Rows := [[0, 1, 2, 3, 4, 5, 6, 7], [1, 2, 3, 4, 5, 6, 7, 0], [2, 3, 4, 5, 6, 7, 0, 1], [3, 4, 5, 6, 7, 0, 1, 2], [4, 5, 6, 7, 0, 1, 2, 3], [5, 6, 7, 0, 1, 2, 3, 4], [6, 7, 0, 1, 2, 3, 4, 5], [7, 0, 1, 2, 3, 4, 5, 6]]
theorem e_r8 : ringL 8 = L_r8 := by decide +kernel
theorem gf_r8 : GF L_r8 8 := ⟨⟨by decide +kernel, by decide +kernel⟩, by decide +kernel, by decide +kernel, by decide +kernel, by decide +kernel, by decide +kernel, by decide +kernel, by decide +kernel, by decide +kernel, by decide +kernel⟩
theorem b_r8 : barM L_r8 = true := by decide +kernel
abbrev L_p22 : Rows := [[0, 1, 2, 3], [1, 0, 3, 2], [2, 3, 0, 1], [3, 2, 1, 0]]
theorem e_p22 : pairsL (ringL 2) (ringL 2) = L_p22 := by decide +kernel
theorem gf_p22 : GF L_p22 4 := ⟨⟨by decide +kernel, by decide +kernel⟩, by decide +kernel, by decide +kernel, by decide +kernel, by decide +kernel, by decide +kernel, by decide +kernel, by decide +kernel, by decide +kernel, by decide +kernel⟩
theorem b_p22 : barM L_p22 = false := by decide +kernel
theorem h_p22 : HasX L_p22 := ⟨[0, 2, 3, 1], ⟨by decide +kernel, by decide +kernel⟩⟩
abbrev L_t3 : Rows := [[0, 1, 2, 3, 4, 5], [1, 2, 0, 4, 5, 3], [2, 0, 1, 5, 3, 4], [3, 5, 4, 0, 2, 1], [4, 3, 5, 1, 0, 2], [5, 4, 3, 2, 1, 0]]
theorem e_t3 : turnsL 3 = L_t3 := by decide +kernel
theorem gf_t3 : GF L_t3 6 := ⟨⟨by decide +kernel, by decide +kernel⟩, by decide +kernel, by decide +kernel, by decide +kernel, by decide +kernel, by decide +kernel, by decide +kernel, by decide +kernel, by decide +kernel, by decide +kernel⟩
theorem b_t3 : barM L_t3 = true := by decide +kernel
abbrev L_t4 : Rows := [[0, 1, 2, 3, 4, 5, 6, 7], [1, 2, 3, 0, 5, 6, 7, 4], [2, 3, 0, 1, 6, 7, 4, 5], [3, 0, 1, 2, 7, 4, 5, 6], [4, 7, 6, 5, 0, 3, 2, 1], [5, 4, 7, 6, 1, 0, 3, 2], [6, 5, 4, 7, 2, 1, 0, 3], [7, 6, 5, 4, 3, 2, 1, 0]]
theorem e_t4 : turnsL 4 = L_t4 := by decide +kernel
theorem gf_t4 : GF L_t4 8 := ⟨⟨by decide +kernel, by decide +kernel⟩, by decide +kernel, by decide +kernel, by decide +kernel, by decide +kernel, by decide +kernel, by decide +kernel, by decide +kernel, by decide +kernel, by decide +kernel⟩
theorem b_t4 : barM L_t4 = false := by decide +kernel
theorem h_t4 : HasX L_t4 := ⟨[0, 1, 4, 5, 3, 2, 7, 6], ⟨by decide +kernel, by decide +kernel⟩⟩
abbrev L_p42 : Rows := [[0, 1, 2, 3, 4, 5, 6, 7], [1, 0, 3, 2, 5, 4, 7, 6], [2, 3, 4, 5, 6, 7, 0, 1], [3, 2, 5, 4, 7, 6, 1, 0], [4, 5, 6, 7, 0, 1, 2, 3], [5, 4, 7, 6, 1, 0, 3, 2], [6, 7, 0, 1, 2, 3, 4, 5], [7, 6, 1, 0, 3, 2, 5, 4]]
theorem e_p42 : pairsL (ringL 4) (ringL 2) = L_p42 := by decide +kernel
theorem gf_p42 : GF L_p42 8 := ⟨⟨by decide +kernel, by decide +kernel⟩, by decide +kernel, by decide +kernel, by decide +kernel, by decide +kernel, by decide +kernel, by decide +kernel, by decide +kernel, by decide +kernel, by decide +kernel⟩
theorem b_p42 : barM L_p42 = false := by decide +kernel
theorem h_p42 : HasX L_p42 := ⟨[0, 2, 3, 4, 5, 7, 6, 1], ⟨by decide +kernel, by decide +kernel⟩⟩
abbrev L_r12 : Rows := [[0, 1, 2, 3, 4, 5, 6, 7, 8, 9, 10, 11], [1, 2, 3, 4, 5, 6, 7, 8, 9, 10, 11, 0], [2, 3, 4, 5, 6, 7, 8, 9, 10, 11, 0, 1], [3, 4, 5, 6, 7, 8, 9, 10, 11, 0, 1, 2], [4, 5, 6, 7, 8, 9, 10, 11, 0, 1, 2, 3], [5, 6, 7, 8, 9, 10, 11, 0, 1, 2, 3, 4], [6, 7, 8, 9, 10, 11, 0, 1, 2, 3, 4, 5], [7, 8, 9, 10, 11, 0, 1, 2, 3, 4, 5, 6], [8, 9, 10, 11, 0, 1, 2, 3, 4, 5, 6, 7], [9, 10, 11, 0, 1, 2, 3, 4, 5, 6, 7, 8], [10, 11, 0, 1, 2, 3, 4, 5, 6, 7, 8, 9], [11, 0, 1, 2, 3, 4, 5, 6, 7, 8, 9, 10]]
theorem e_r12 : ringL 12 = L_r12 := by decide +kernel
theorem gf_r12 : GF L_r12 12 := ⟨⟨by decide +kernel, by decide +kernel⟩, by decide +kernel, by decide +kernel, by decide +kernel, by decide +kernel, by decide +kernel, by decide +kernel, by decide +kernel, by decide +kernel, by decide +kernel⟩
theorem b_r12 : barM L_r12 = true := by decide +kernel
abbrev L_p62 : Rows := [[0, 1, 2, 3, 4, 5, 6, 7, 8, 9, 10, 11], [1, 0, 3, 2, 5, 4, 7, 6, 9, 8, 11, 10], [2, 3, 4, 5, 6, 7, 8, 9, 10, 11, 0, 1], [3, 2, 5, 4, 7, 6, 9, 8, 11, 10, 1, 0], [4, 5, 6, 7, 8, 9, 10, 11, 0, 1, 2, 3], [5, 4, 7, 6, 9, 8, 11, 10, 1, 0, 3, 2], [6, 7, 8, 9, 10, 11, 0, 1, 2, 3, 4, 5], [7, 6, 9, 8, 11, 10, 1, 0, 3, 2, 5, 4], [8, 9, 10, 11, 0, 1, 2, 3, 4, 5, 6, 7], [9, 8, 11, 10, 1, 0, 3, 2, 5, 4, 7, 6], [10, 11, 0, 1, 2, 3, 4, 5, 6, 7, 8, 9], [11, 10, 1, 0, 3, 2, 5, 4, 7, 6, 9, 8]]
theorem e_p62 : pairsL (ringL 6) (ringL 2) = L_p62 := by decide +kernel
theorem gf_p62 : GF L_p62 12 := ⟨⟨by decide +kernel, by decide +kernel⟩, by decide +kernel, by decide +kernel, by decide +kernel, by decide +kernel, by decide +kernel, by decide +kernel, by decide +kernel, by decide +kernel, by decide +kernel⟩
theorem b_p62 : barM L_p62 = false := by decide +kernel
theorem h_p62 : HasX L_p62 := ⟨[0, 2, 3, 1, 4, 6, 7, 5, 8, 10, 11, 9], ⟨by decide +kernel, by decide +kernel⟩⟩
abbrev L_t6 : Rows := [[0, 1, 2, 3, 4, 5, 6, 7, 8, 9, 10, 11], [1, 2, 3, 4, 5, 0, 7, 8, 9, 10, 11, 6], [2, 3, 4, 5, 0, 1, 8, 9, 10, 11, 6, 7], [3, 4, 5, 0, 1, 2, 9, 10, 11, 6, 7, 8], [4, 5, 0, 1, 2, 3, 10, 11, 6, 7, 8, 9], [5, 0, 1, 2, 3, 4, 11, 6, 7, 8, 9, 10], [6, 11, 10, 9, 8, 7, 0, 5, 4, 3, 2, 1], [7, 6, 11, 10, 9, 8, 1, 0, 5, 4, 3, 2], [8, 7, 6, 11, 10, 9, 2, 1, 0, 5, 4, 3], [9, 8, 7, 6, 11, 10, 3, 2, 1, 0, 5, 4], [10, 9, 8, 7, 6, 11, 4, 3, 2, 1, 0, 5], [11, 10, 9, 8, 7, 6, 5, 4, 3, 2, 1, 0]]
theorem e_t6 : turnsL 6 = L_t6 := by decide +kernel
theorem gf_t6 : GF L_t6 12 := ⟨⟨by decide +kernel, by decide +kernel⟩, by decide +kernel, by decide +kernel, by decide +kernel, by decide +kernel, by decide +kernel, by decide +kernel, by decide +kernel, by decide +kernel, by decide +kernel⟩
theorem b_t6 : barM L_t6 = false := by decide +kernel
theorem h_t6 : HasX L_t6 := ⟨[0, 1, 2, 6, 7, 8, 4, 3, 11, 10, 9, 5], ⟨by decide +kernel, by decide +kernel⟩⟩
abbrev L_r9 : Rows := [[0, 1, 2, 3, 4, 5, 6, 7, 8], [1, 2, 3, 4, 5, 6, 7, 8, 0], [2, 3, 4, 5, 6, 7, 8, 0, 1], [3, 4, 5, 6, 7, 8, 0, 1, 2], [4, 5, 6, 7, 8, 0, 1, 2, 3], [5, 6, 7, 8, 0, 1, 2, 3, 4], [6, 7, 8, 0, 1, 2, 3, 4, 5], [7, 8, 0, 1, 2, 3, 4, 5, 6], [8, 0, 1, 2, 3, 4, 5, 6, 7]]
theorem e_r9 : ringL 9 = L_r9 := by decide +kernel
theorem gf_r9 : GF L_r9 9 := ⟨⟨by decide +kernel, by decide +kernel⟩, by decide +kernel, by decide +kernel, by decide +kernel, by decide +kernel, by decide +kernel, by decide +kernel, by decide +kernel, by decide +kernel, by decide +kernel⟩
theorem b_r9 : barM L_r9 = false := by decide +kernel
theorem h_r9 : HasX L_r9 := ⟨[0, 1, 2, 3, 4, 5, 6, 7, 8], ⟨by decide +kernel, by decide +kernel⟩⟩
abbrev L_t5 : Rows := [[0, 1, 2, 3, 4, 5, 6, 7, 8, 9], [1, 2, 3, 4, 0, 6, 7, 8, 9, 5], [2, 3, 4, 0, 1, 7, 8, 9, 5, 6], [3, 4, 0, 1, 2, 8, 9, 5, 6, 7], [4, 0, 1, 2, 3, 9, 5, 6, 7, 8], [5, 9, 8, 7, 6, 0, 4, 3, 2, 1], [6, 5, 9, 8, 7, 1, 0, 4, 3, 2], [7, 6, 5, 9, 8, 2, 1, 0, 4, 3], [8, 7, 6, 5, 9, 3, 2, 1, 0, 4], [9, 8, 7, 6, 5, 4, 3, 2, 1, 0]]
theorem e_t5 : turnsL 5 = L_t5 := by decide +kernel
theorem gf_t5 : GF L_t5 10 := ⟨⟨by decide +kernel, by decide +kernel⟩, by decide +kernel, by decide +kernel, by decide +kernel, by decide +kernel, by decide +kernel, by decide +kernel, by decide +kernel, by decide +kernel, by decide +kernel⟩
theorem b_t5 : barM L_t5 = true := by decide +kernel
theorem good_r1 : GoodB L_r1 1 where
  gf := gf_r1
  has := fun _ => h_r1
  no := fun e => absurd e (by decide +kernel)
  one := fun e => absurd e (by decide +kernel)
  two := fun _ => .inl (by decide)
  odd := fun _ => ⟨by decide +kernel, by decide +kernel⟩
theorem good_r2 : GoodB L_r2 2 where
  gf := gf_r2
  has := fun e => absurd e (by decide +kernel)
  no := fun _ _ => no_hom (M := 2) gf_r2.sq (fun x => x) (by decide +kernel) (by decide +kernel) gf_r2.lt
  one := fun _ => ⟨by decide, by decide, _, one_mk (v := [0, 1]) (C := fun r => []) gf_r2 (by decide) (by decide +kernel) (by decide +kernel) (fun h => absurd h (by decide)) (by decide +kernel) (by decide +kernel)⟩
  two := fun e => absurd e (by decide +kernel)
  odd := fun e => absurd e (by decide)
theorem good_r3 : GoodB L_r3 3 where
  gf := gf_r3
  has := fun _ => h_r3
  no := fun e => absurd e (by decide +kernel)
  one := fun e => absurd e (by decide +kernel)
  two := fun _ => .inl (by decide)
  odd := fun _ => ⟨by decide +kernel, by decide +kernel⟩
theorem good_r4 : GoodB L_r4 4 where
  gf := gf_r4
  has := fun e => absurd e (by decide +kernel)
  no := fun _ _ => no_hom (M := 4) gf_r4.sq (fun x => x) (by decide +kernel) (by decide +kernel) gf_r4.lt
  one := fun _ => ⟨by decide, by decide, _, one_mk (v := [0, 1, 0, 1]) (C := fun r => if r = 2 then [[0, 1, 0, 1]] else []) gf_r4 (by decide) (by decide +kernel) (by decide +kernel) (fun _ => by decide +kernel) (by decide +kernel) (by decide +kernel)⟩
  two := fun e => absurd e (by decide +kernel)
  odd := fun e => absurd e (by decide)
theorem good_r5 : GoodB L_r5 5 where
  gf := gf_r5
  has := fun _ => h_r5
  no := fun e => absurd e (by decide +kernel)
  one := fun e => absurd e (by decide +kernel)
  two := fun _ => .inl (by decide)
  odd := fun _ => ⟨by decide +kernel, by decide +kernel⟩
theorem good_r6 : GoodB L_r6 6 where
  gf := gf_r6
  has := fun e => absurd e (by decide +kernel)
  no := fun _ _ => no_hom (M := 2) gf_r6.sq (fun x => x) (by decide +kernel) (by decide +kernel) gf_r6.lt
  one := fun _ => ⟨by decide, by decide, _, one_mk (v := [0, 1, 0, 1, 0, 1]) (C := fun r => []) gf_r6 (by decide) (by decide +kernel) (by decide +kernel) (fun h => absurd h (by decide)) (by decide +kernel) (by decide +kernel)⟩
  two := fun e => absurd e (by decide +kernel)
  odd := fun e => absurd e (by decide)
theorem good_r7 : GoodB L_r7 7 where
  gf := gf_r7
  has := fun _ => h_r7
  no := fun e => absurd e (by decide +kernel)
  one := fun e => absurd e (by decide +kernel)
  two := fun _ => .inl (by decide)
  odd := fun _ => ⟨by decide +kernel, by decide +kernel⟩
theorem good_r8 : GoodB L_r8 8 where
  gf := gf_r8
  has := fun e => absurd e (by decide +kernel)
  no := fun _ h => absurd h (by decide)
  one := fun _ => ⟨by decide, by decide, _, one_mk (v := [0, 1, 0, 1, 0, 1, 0, 1]) (C := fun r => if r = 2 then [[0, 1, 0, 1, 0, 1, 0, 1]] else if r = 4 then [[0, 1, 2, 3, 0, 1, 2, 3], [0, 3, 2, 1, 0, 3, 2, 1]] else []) gf_r8 (by decide) (by decide +kernel) (by decide +kernel) (fun _ => by decide +kernel) (by decide +kernel) (by decide +kernel)⟩
  two := fun e => absurd e (by decide +kernel)
  odd := fun e => absurd e (by decide)
theorem good_p22 : GoodB L_p22 4 where
  gf := gf_p22
  has := fun _ => h_p22
  no := fun e => absurd e (by decide +kernel)
  one := fun e => absurd e (by decide +kernel)
  two := fun _ => .inr ⟨by decide, two_mk (v := [0, 0, 1, 1]) (w := [0, 1, 0, 1]) gf_p22.sq (by decide) (by decide +kernel) (by decide +kernel) (by decide +kernel) (by decide +kernel) (by decide +kernel)⟩
  odd := fun e => absurd e (by decide)
theorem good_t3 : GoodB L_t3 6 where
  gf := gf_t3
  has := fun e => absurd e (by decide +kernel)
  no := fun _ _ => no_hom (M := 2) gf_t3.sq (fun x => x / 3) (by decide +kernel) (by decide +kernel) gf_t3.lt
  one := fun _ => ⟨by decide, by decide, _, one_mk (v := [0, 0, 0, 1, 1, 1]) (C := fun r => []) gf_t3 (by decide) (by decide +kernel) (by decide +kernel) (fun h => absurd h (by decide)) (by decide +kernel) (by decide +kernel)⟩
  two := fun e => absurd e (by decide +kernel)
  odd := fun e => absurd e (by decide)
theorem good_t4 : GoodB L_t4 8 where
  gf := gf_t4
  has := fun _ => h_t4
  no := fun e => absurd e (by decide +kernel)
  one := fun e => absurd e (by decide +kernel)
  two := fun _ => .inr ⟨by decide, two_mk (v := [0, 0, 0, 0, 1, 1, 1, 1]) (w := [0, 1, 0, 1, 0, 1, 0, 1]) gf_t4.sq (by decide) (by decide +kernel) (by decide +kernel) (by decide +kernel) (by decide +kernel) (by decide +kernel)⟩
  odd := fun e => absurd e (by decide)
theorem good_p42 : GoodB L_p42 8 where
  gf := gf_p42
  has := fun _ => h_p42
  no := fun e => absurd e (by decide +kernel)
  one := fun e => absurd e (by decide +kernel)
  two := fun _ => .inr ⟨by decide, two_mk (v := [0, 0, 1, 1, 0, 0, 1, 1]) (w := [0, 1, 0, 1, 0, 1, 0, 1]) gf_p42.sq (by decide) (by decide +kernel) (by decide +kernel) (by decide +kernel) (by decide +kernel) (by decide +kernel)⟩
  odd := fun e => absurd e (by decide)
theorem baseL_good {B : Rows} (h : B ∈ baseL) : GoodB B B.length := by
  simp only [baseL, List.mem_append, List.mem_cons, List.not_mem_nil, or_false] at h
  rcases h with ((rfl | rfl | rfl | rfl | rfl | rfl | rfl | rfl) | (rfl | rfl)) | (rfl | rfl | rfl)
  · rw [e_r1]; exact good_r1
  · rw [e_r2]; exact good_r2
  · rw [e_r3]; exact good_r3
  · rw [e_r4]; exact good_r4
  · rw [e_r5]; exact good_r5
  · rw [e_r6]; exact good_r6
  · rw [e_r7]; exact good_r7
  · rw [e_r8]; exact good_r8
  · rw [e_p22]; exact good_p22
  · rw [e_t3]; exact good_t3
  · rw [e_t4]; exact good_t4
  · rw [e_p42]; exact good_p42
  · rw [e_p22]; exact good_p22
end K61

set_option Elab.async false
/-! What the law's walk asks of the drawn tables. -/
namespace K61
open L2
theorem baseL_hG (B rs : Rows) (s : List Nat) (hB : B ∈ baseL) (h : RenBy B rs s) : GoodR rs :=
  let g := baseL_good hB
  g.good (iso_of g.gf.sq g.gf.pos g.gf.lt h)
theorem baseL_hB (B : Rows) (hB : B ∈ baseL) : 1 ≤ B.length ∧ B.length ≤ 12 ∧ ∀ r ∈ B, r.length = B.length ∧ ∀ x ∈ r, x < B.length := by
  have g := (baseL_good hB).gf
  refine ⟨g.pos, g.le, fun r hr => ⟨g.sq.row r hr, fun x hx => ?_⟩⟩
  obtain ⟨i, hi, rfl⟩ := g.sq.ex hr
  rw [g.sq.eq hi] at hx
  obtain ⟨j, hj, rfl⟩ := List.mem_map.mp hx
  exact g.lt i hi j (List.mem_range.mp hj)
theorem lastL_grp : Grp (ringL 12) ∧ Grp (pairsL (ringL 6) (ringL 2)) ∧ Grp (turnsL 6) ∧ Grp (ringL 9) ∧ Grp (turnsL 5) := by
  rw [e_r12, e_p62, e_t6, e_r9, e_t5]
  exact ⟨gf_r12.grp, gf_p62.grp, gf_t6.grp, gf_r9.grp, gf_t5.grp⟩
theorem lastL_bar : barM (ringL 12) = true ∧ barM (pairsL (ringL 6) (ringL 2)) = false ∧ barM (turnsL 6) = false ∧ barM (ringL 9) = false ∧ barM (turnsL 5) = true := by
  rw [e_r12, e_p62, e_t6, e_r9, e_t5]
  exact ⟨b_r12, b_p62, b_t6, b_r9, b_t5⟩
theorem lastL_has : HasX (pairsL (ringL 6) (ringL 2)) ∧ HasX (turnsL 6) ∧ HasX (ringL 9) := by
  rw [e_p62, e_t6, e_r9]
  exact ⟨h_p62, h_t6, h_r9⟩
theorem lastL_ok : LastOk := fun k B h => by
  obtain ⟨g1, g2, g3, g4, g5⟩ := lastL_grp
  obtain ⟨b1, b2, b3, b4, b5⟩ := lastL_bar
  obtain ⟨x2, x3, x4⟩ := lastL_has
  rcases k with _ | _ | _ | _ | _ | k
  · cases h; exact ⟨g1, .inl ⟨rfl, b1⟩⟩
  · cases h; exact ⟨g2, .inr ⟨rfl, b2, x2⟩⟩
  · cases h; exact ⟨g3, .inr ⟨rfl, b3, x3⟩⟩
  · cases h; exact ⟨g4, .inr ⟨rfl, b4, x4⟩⟩
  · cases h; exact ⟨g5, .inl ⟨rfl, b5⟩⟩
  · cases h
end K61

set_option Elab.async false
set_option maxRecDepth 100000
set_option maxHeartbeats 0
/-! The end: every def in its order, the head. -/
namespace K61
open PySem PySem.Spec PyProof.Rows L2
theorem law_walk {P : Program} {w : World} {K : PySem.W.Frag} {mg : Str → Option Value} {base : Heap} (T : Txt K mg) {fd : FuncData} (F : FunD K "law" "law" (defArgs (top 75)) (defBody (top 75)) (defScope (top 75)) [] [] (He.ga K "law") fd) : FnOk P w K mg base CX0 17 (He.ga K "law") fd ["_law_script"] (spLaw K) := by
  have h_ahead : FnR P w K mg base CX0 14 (He.ma K (He.ga K "Search") "ahead") (fun vs H Q E => ∃ d, d ≤ 12 ∧ spAhead K d vs H Q E) := fun A outer s H us vs Q E hr e0 r ⟨d, hd, h⟩ => (ok_ahead_all T d).mono (by omega) A outer s H us vs Q E hr e0 r h
  have h_law_ring := ok_law_ring (P := P) (w := w) (base := base) T 
  have h_law_pairs := ok_law_pairs (P := P) (w := w) (base := base) T 
  have h_law_turns := ok_law_turns (P := P) (w := w) (base := base) T 
  have h_law_draw := ok_law_draw (P := P) (w := w) (base := base) T 
  have h_law_mixed := ok_law_mixed (P := P) (w := w) (base := base) T h_law_draw
  have h_law_renamed := ok_law_renamed (P := P) (w := w) (base := base) T h_law_mixed
  have h_law_pick := ok_law_pick (P := P) (w := w) (base := base) T h_law_draw
  have h_law_order := ok_law_order (P := P) (w := w) (base := base) T 
  have h_law_is_barred := ok_law_is_barred (P := P) (w := w) (base := base) T h_law_order
  have h_require_loop := ok_require_loop (P := P) (w := w) (base := base) T 
  have h_is_group_rows := ok_is_group_rows (P := P) (w := w) (base := base) T 
  have h_Loop_is_group := ok_Loop_is_group (P := P) (w := w) (base := base) T h_is_group_rows
  have h_require_group := ok_require_group (P := P) (w := w) (base := base) T h_Loop_is_group
  have h_even_share := ok_even_share (P := P) (w := w) (base := base) T 
  have h_Loop_order := ok_Loop_order (P := P) (w := w) (base := base) T 
  have h_is_whole := ok_is_whole (P := P) (w := w) (base := base) T 
  have h_is_within := ok_is_within (P := P) (w := w) (base := base) T h_is_whole
  have h_require_within := ok_require_within (P := P) (w := w) (base := base) T h_is_within
  have h_require_sign := ok_require_sign (P := P) (w := w) (base := base) T h_require_within
  have h_require_name := ok_require_name (P := P) (w := w) (base := base) T h_require_sign
  have h_round_from := ok_round_from (P := P) (w := w) (base := base) T 
  have h_Loop_order_of := ok_Loop_order_of (P := P) (w := w) (base := base) T h_require_name h_round_from
  have h_Loop_iter := ok_Loop_iter (P := P) (w := w) (base := base) T 
  have h_is_barred_group := ok_is_barred_group (P := P) (w := w) (base := base) T h_even_share h_Loop_order h_Loop_order_of h_Loop_iter
  have h_Loop_table := ok_Loop_table (P := P) (w := w) (base := base) T 
  have h_weights_of := ok_weights_of (P := P) (w := w) (base := base) T 
  have h_Search_init := ok_Search_init (P := P) (w := w) (base := base) T h_weights_of
  have h_complete_mapping := ok_complete_mapping (P := P) (w := w) (base := base) T h_require_loop h_require_group h_is_barred_group h_Loop_order h_Loop_table h_Search_init h_ahead
  have h_is_barred := ok_is_barred (P := P) (w := w) (base := base) T h_require_loop h_require_group h_is_barred_group
  have h_require_table := ok_require_table (P := P) (w := w) (base := base) T 
  have h_places_of := ok_places_of (P := P) (w := w) (base := base) T 
  have h_Halves_init := ok_Halves_init (P := P) (w := w) (base := base) T h_weights_of
  have h_Halves_is_put := ok_Halves_is_put (P := P) (w := w) (base := base) T 
  have h_halves_of := ok_halves_of (P := P) (w := w) (base := base) T h_places_of h_Halves_init h_Halves_is_put
  have h_Halves_free := ok_Halves_free (P := P) (w := w) (base := base) T 
  have h_Halves_bits := ok_Halves_bits (P := P) (w := w) (base := base) T 
  have h_sign_numbers := ok_sign_numbers (P := P) (w := w) (base := base) T h_halves_of h_Halves_free h_Halves_bits
  have h_sum_bar := ok_sum_bar (P := P) (w := w) (base := base) T h_require_table h_even_share h_sign_numbers
  have h_stepped := ok_stepped (P := P) (w := w) (base := base) T 
  have h_counted := ok_counted (P := P) (w := w) (base := base) T h_weights_of h_stepped
  have h_transversals_counted := ok_transversals_counted (P := P) (w := w) (base := base) T h_counted
  have h_require_small := ok_require_small (P := P) (w := w) (base := base) T 
  have h_count_transversals := ok_count_transversals (P := P) (w := w) (base := base) T h_transversals_counted h_require_table h_require_small
  have h_law_is_complete := ok_law_is_complete (P := P) (w := w) (base := base) T 
  have h_is_renaming_of := ok_is_renaming_of (P := P) (w := w) (base := base) T h_is_within
  have h_is_cross := ok_is_cross (P := P) (w := w) (base := base) T h_is_renaming_of
  have h_is_complete_mapping := ok_is_complete_mapping (P := P) (w := w) (base := base) T h_is_cross h_require_loop h_Loop_table
  have h_is_transversal := ok_is_transversal (P := P) (w := w) (base := base) T h_is_cross h_require_table
  have h_law_near_right := ok_law_near_right (P := P) (w := w) (base := base) T h_law_draw h_law_is_complete h_is_complete_mapping h_is_transversal h_Loop_table
  have h_Table_is_ordered := ok_Table_is_ordered (P := P) (w := w) (base := base) T 
  have h_Loop_init := ok_Loop_init (P := P) (w := w) (base := base) T h_require_table h_Table_is_ordered
  have h_is_renaming := ok_is_renaming (P := P) (w := w) (base := base) T h_is_renaming_of
  have h_transposed := ok_transposed (P := P) (w := w) (base := base) T 
  have h_are_rows := ok_are_rows (P := P) (w := w) (base := base) T h_is_renaming_of h_is_renaming h_transposed
  have h_rows_told := ok_rows_told (P := P) (w := w) (base := base) T h_are_rows
  have h_turned_back := ok_turned_back (P := P) (w := w) (base := base) T 
  have h_columns_of := ok_columns_of (P := P) (w := w) (base := base) T h_turned_back
  have h_rows_of_signs := ok_rows_of_signs (P := P) (w := w) (base := base) T h_turned_back h_transposed
  have h_Table_init := ok_Table_init (P := P) (w := w) (base := base) T h_rows_told h_columns_of h_rows_of_signs
  have h_law_right := ok_law_right (P := P) (w := w) (base := base) T baseL_hG baseL_hB h_law_ring h_law_pairs h_law_turns h_law_renamed h_law_pick h_law_is_barred h_complete_mapping h_is_barred h_sum_bar h_count_transversals h_law_near_right h_law_mixed h_is_complete_mapping h_law_draw h_law_is_complete h_Loop_init h_Table_init h_Loop_table
  have h_law_urn := ok_law_urn (P := P) (w := w) (base := base) T 
  exact ok_law T lastL_ok h_law_right h_law_urn h_law_ring h_law_pairs h_law_turns h_Loop_init h_Table_init h_complete_mapping F
theorem facts {P : Program} {w : World} {K : PySem.W.Frag} {h : Heap} {mg : Str → Option Value} {f : Addr} (X : K.In h) (G : h.Ns mainGlobals mg) (hfa : mg ("law" : Str) = some (.ref f)) (c : seeAll fa fn K = dueAll fn) :
    ∃ fd : FuncData, (∀ (s : Shared) (v : Value), BindsTo s fd ⟨[v], []⟩ [("_law_script", v)]) ∧ ∀ base : Heap, K.In base → base.Ns mainGlobals mg → FnOk P w K mg base CX0 17 f fd ["_law_script"] (spLaw K) := by
  have T := txt_of X G c
  obtain ⟨fd, F⟩ := T.f_law
  have e := hfa.symm.trans T.g_law
  cases e
  have b := FunD.bindsA (ps := ["_law_script"]) F fun _ _ _ _ _ _ us hl => match us, hl with | [_], _ => rfl
  exact ⟨fd, fun s v => b s [v] rfl, fun base _ _ => law_walk T F⟩
end K61
open PySem PySem.W PySem.Calls PyProof.Rows
theorem PySem.Challenge.cw_oneanswer_k61_whole_groups_and_complete_holds : PySem.Challenge.rw_oneanswer_k61_whole_groups_and_complete.Holds := by
  w_on; o_law
  refine HandSHeadRun.head_any (r := OpenLaw.row PySem.Challenge.rw_oneanswer_k61_whole_groups_and_complete) (q := view (OpenLaw.row PySem.Challenge.rw_oneanswer_k61_whole_groups_and_complete).prog [75]) (H := K61.hk) (ob := K61.ob) (M := 20000) (loose := K61.loose) (d := HandSHeadRun.topDef (OpenLaw.row PySem.Challenge.rw_oneanswer_k61_whole_groups_and_complete).prog 75) (kwd := []) K61.ob_eq
    (by kernel_rfl) (fun s => by kernel_rfl) K61.run (by kernel_rfl) (by kernel_rfl) (by kernel_rfl) (by rfl) (by first | assumption | decide +kernel) (by decide +kernel) ⟨rfl, rfl, rfl, rfl, rfl, by decide +kernel⟩ ?hw ?hc
  case hw => w_witness2
  case hc =>
    refine L2.walk_ofE (l := PySem.Challenge.rw_oneanswer_k61_whole_groups_and_complete) (n := 63) (k := 17) (x := "_law_script") (CX := L2.CX0) rfl (by decide) (by kernel_rfl) ⟨rfl, by decide, by decide⟩ ?F (fun _ _ _ _ z => z)
    intro w mg fa h Y G hmg0
    obtain ⟨K, KX, c⟩ := Y
    have hmg : mg ("law" : PySem.Str) = some (.ref fa) := by
      have e : (HandSHeadRun.topDef (OpenLaw.row PySem.Challenge.rw_oneanswer_k61_whole_groups_and_complete).prog 75).name = ("law" : PySem.Str) := by kernel_rfl
      rw [← e]
      exact hmg0
    obtain ⟨fd, hb, hF⟩ := K61.facts (P := (PySem.Challenge.rw_oneanswer_k61_whole_groups_and_complete).prog) (w := w) KX G hmg c
    exact ⟨K, fd, K61.spLaw K, KX, hb, fun H a ns hl _ hS => ⟨a, ns, rfl, hl, hS, fun _ => rfl⟩, hF⟩
