import PyProof.Rows.All
import HandS.Defaults
import HandS.SortKw
import HandS.IsInst
import HandS.Gcd
import HandS.HeadEnd
import HandS.HeadHook1
import HandS.HeadHook2
import HandS.HeadHook3
import HandS.HeadHook4
import PySem.Challenge.RW_fivebases_k21_whole_meanings
import KE.KStateDown
import Lean
import HandS.Head0
import HandS.Head1
import HandS.Head2
import HandS.Head3
import Wide.All
import OpenK.AllK
import Wide.FinOn
import HandS.ForMost
import HandS.OwnEq
import OpenK.KMeth
import HandS.Conv
import HandS.More
import KE.SortData
import HandS.DictTup
import KE.KDictKeyed
import KE.KDictOf
import KE.KDictDisplayH
import KE.KEqDict
import HandS.Walk
import HandS.Zip
import HandS.TupAny
set_option Elab.async false
set_option linter.all false
set_option maxRecDepth 100000
set_option maxHeartbeats 0
namespace FB
open PySem PySem.Spec PyProof.Rows L2
def top (i : Nat) : Stmt := PySem.Challenge.pw_fivebases_k21_whole_meanings.main.body.getD i (.Pass ⟨0, 0, 0, 0⟩)
def d_is_integer : He.DefD := ⟨("is_integer", none), "is_integer", "is_integer", defArgs (top 9), defBody (top 9), defScope (top 9), [], []⟩
def d_is_partition : He.DefD := ⟨("is_partition", none), "is_partition", "is_partition", defArgs (top 16), defBody (top 16), defScope (top 16), [], []⟩
def d_size : He.DefD := ⟨("size", none), "size", "size", defArgs (top 17), defBody (top 17), defScope (top 17), [], []⟩
def d_partitions_below : He.DefD := ⟨("_partitions_below", none), "_partitions_below", "_partitions_below", defArgs (top 18), defBody (top 18), defScope (top 18), [], []⟩
def d_partitions : He.DefD := ⟨("partitions", none), "partitions", "partitions", defArgs (top 19), defBody (top 19), defScope (top 19), [], []⟩
def d_part_at : He.DefD := ⟨("part_at", none), "part_at", "part_at", defArgs (top 20), defBody (top 20), defScope (top 20), [], []⟩
def d_holds : He.DefD := ⟨("holds", none), "holds", "holds", defArgs (top 22), defBody (top 22), defScope (top 22), [], []⟩
def d_trimmed : He.DefD := ⟨("_trimmed", none), "_trimmed", "_trimmed", defArgs (top 23), defBody (top 23), defScope (top 23), [], []⟩
def d_rows : He.DefD := ⟨("_rows", none), "_rows", "_rows", defArgs (top 24), defBody (top 24), defScope (top 24), [], []⟩
def d_with_strip : He.DefD := ⟨("with_strip", none), "with_strip", "with_strip", defArgs (top 25), defBody (top 25), defScope (top 25), [], [("upright", .bl false)]⟩
def d_count_fillings : He.DefD := ⟨("count_fillings", none), "count_fillings", "count_fillings", defArgs (top 27), defBody (top 27), defScope (top 27), [.adr (He.dflAt ("count_fillings", none) 0)], []⟩
def d_check_letters : He.DefD := ⟨("check_letters", none), "check_letters", "check_letters", defArgs (top 30), defBody (top 30), defScope (top 30), [], []⟩
def d_is_exponent : He.DefD := ⟨("is_exponent", none), "is_exponent", "is_exponent", defArgs (top 31), defBody (top 31), defScope (top 31), [], []⟩
def d_as_ratio : He.DefD := ⟨("as_ratio", none), "as_ratio", "as_ratio", defArgs (top 32), defBody (top 32), defScope (top 32), [], []⟩
def d_added_terms : He.DefD := ⟨("added_terms", none), "added_terms", "added_terms", defArgs (top 33), defBody (top 33), defScope (top 33), [], []⟩
def d_monomials : He.DefD := ⟨("monomials", none), "monomials", "monomials", defArgs (top 40), defBody (top 40), defScope (top 40), [], []⟩
def d_check_part : He.DefD := ⟨("check_part", none), "check_part", "check_part", defArgs (top 44), defBody (top 44), defScope (top 44), [], []⟩
def d_descending : He.DefD := ⟨("descending", none), "descending", "descending", defArgs (top 45), defBody (top 45), defScope (top 45), [], []⟩
def d_choices : He.DefD := ⟨("choices", none), "choices", "choices", defArgs (top 46), defBody (top 46), defScope (top 46), [], []⟩
def d_coefficient_in : He.DefD := ⟨("coefficient_in", none), "coefficient_in", "coefficient_in", defArgs (top 47), defBody (top 47), defScope (top 47), [], []⟩
def d_added_parts : He.DefD := ⟨("added_parts", none), "added_parts", "added_parts", defArgs (top 48), defBody (top 48), defScope (top 48), [], []⟩
def d_meaning_terms : He.DefD := ⟨("meaning_terms", none), "meaning_terms", "meaning_terms", defArgs (top 51), defBody (top 51), defScope (top 51), [], []⟩
def d_law_table_of : He.DefD := ⟨("_law_table_of", none), "_law_table_of", "_law_table_of", defArgs (top 53), defBody (top 53), defScope (top 53), [], []⟩
def d_law_state : He.DefD := ⟨("_law_state", none), "_law_state", "_law_state", defArgs (top 54), defBody (top 54), defScope (top 54), [], []⟩
def d_law_take : He.DefD := ⟨("_law_take", none), "_law_take", "_law_take", defArgs (top 55), defBody (top 55), defScope (top 55), [], []⟩
def d_law_gcd : He.DefD := ⟨("_law_gcd", none), "_law_gcd", "_law_gcd", defArgs (top 56), defBody (top 56), defScope (top 56), [], []⟩
def d_law_frac : He.DefD := ⟨("_law_frac", none), "_law_frac", "_law_frac", defArgs (top 57), defBody (top 57), defScope (top 57), [], []⟩
def d_law_add : He.DefD := ⟨("_law_add", none), "_law_add", "_law_add", defArgs (top 58), defBody (top 58), defScope (top 58), [], []⟩
def d_law_mul : He.DefD := ⟨("_law_mul", none), "_law_mul", "_law_mul", defArgs (top 59), defBody (top 59), defScope (top 59), [], []⟩
def d_law_pair : He.DefD := ⟨("_law_pair", none), "_law_pair", "_law_pair", defArgs (top 60), defBody (top 60), defScope (top 60), [], []⟩
def d_law_item : He.DefD := ⟨("_law_item", none), "_law_item", "_law_item", defArgs (top 61), defBody (top 61), defScope (top 61), [], []⟩
def d_law_ratio : He.DefD := ⟨("_law_ratio", none), "_law_ratio", "_law_ratio", defArgs (top 62), defBody (top 62), defScope (top 62), [], []⟩
def d_law_exponents : He.DefD := ⟨("_law_exponents", none), "_law_exponents", "_law_exponents", defArgs (top 63), defBody (top 63), defScope (top 63), [], []⟩
def d_law_plus : He.DefD := ⟨("_law_plus", none), "_law_plus", "_law_plus", defArgs (top 64), defBody (top 64), defScope (top 64), [], []⟩
def d_law_sum : He.DefD := ⟨("_law_sum", none), "_law_sum", "_law_sum", defArgs (top 65), defBody (top 65), defScope (top 65), [], []⟩
def d_law_times : He.DefD := ⟨("_law_times", none), "_law_times", "_law_times", defArgs (top 66), defBody (top 66), defScope (top 66), [], []⟩
def d_law_table : He.DefD := ⟨("_law_table", none), "_law_table", "_law_table", defArgs (top 67), defBody (top 67), defScope (top 67), [], []⟩
def d_law_partitions : He.DefD := ⟨("_law_partitions", none), "_law_partitions", "_law_partitions", defArgs (top 68), defBody (top 68), defScope (top 68), [], []⟩
def d_law_basic : He.DefD := ⟨("_law_basic", none), "_law_basic", "_law_basic", defArgs (top 69), defBody (top 69), defScope (top 69), [], []⟩
def d_law_strip_sum : He.DefD := ⟨("_law_strip_sum", none), "_law_strip_sum", "_law_strip_sum", defArgs (top 70), defBody (top 70), defScope (top 70), [], []⟩
def d_law_inner : He.DefD := ⟨("_law_inner", none), "_law_inner", "_law_inner", defArgs (top 71), defBody (top 71), defScope (top 71), [], []⟩
def d_law_polynomial : He.DefD := ⟨("_law_polynomial", none), "_law_polynomial", "_law_polynomial", defArgs (top 72), defBody (top 72), defScope (top 72), [], []⟩
def d_law_function : He.DefD := ⟨("_law_function", none), "_law_function", "_law_function", defArgs (top 73), defBody (top 73), defScope (top 73), [], []⟩
def d_law_made : He.DefD := ⟨("_law_made", none), "_law_made", "_law_made", defArgs (top 74), defBody (top 74), defScope (top 74), [], []⟩
def d_law_expanded : He.DefD := ⟨("_law_expanded", none), "_law_expanded", "_law_expanded", defArgs (top 75), defBody (top 75), defScope (top 75), [], []⟩
def d_law_terms : He.DefD := ⟨("_law_terms", none), "_law_terms", "_law_terms", defArgs (top 76), defBody (top 76), defScope (top 76), [], []⟩
def d_law : He.DefD := ⟨("law", none), "law", "law", defArgs (top 77), defBody (top 77), defScope (top 77), [], []⟩
def d_Ratio_init : He.DefD := ⟨("Ratio", some "__init__"), "__init__", "Ratio.__init__", defArgs (inClass (top 11) 0), defBody (inClass (top 11) 0), defScope (inClass (top 11) 0), [.int 1], []⟩
def d_Ratio_add : He.DefD := ⟨("Ratio", some "__add__"), "__add__", "Ratio.__add__", defArgs (inClass (top 11) 1), defBody (inClass (top 11) 1), defScope (inClass (top 11) 1), [], []⟩
def d_Ratio_mul : He.DefD := ⟨("Ratio", some "__mul__"), "__mul__", "Ratio.__mul__", defArgs (inClass (top 11) 3), defBody (inClass (top 11) 3), defScope (inClass (top 11) 3), [], []⟩
def d_Ratio_eq : He.DefD := ⟨("Ratio", some "__eq__"), "__eq__", "Ratio.__eq__", defArgs (inClass (top 11) 5), defBody (inClass (top 11) 5), defScope (inClass (top 11) 5), [], []⟩
def d_Ratio_is_zero : He.DefD := ⟨("Ratio", some "is_zero"), "is_zero", "Ratio.is_zero", defArgs (inClass (top 11) 13), defBody (inClass (top 11) 13), defScope (inClass (top 11) 13), [], []⟩
def d_Letters_init : He.DefD := ⟨("Letters", some "__init__"), "__init__", "Letters.__init__", defArgs (inClass (top 38) 0), defBody (inClass (top 38) 0), defScope (inClass (top 38) 0), [], []⟩
def d_Symmetric_init : He.DefD := ⟨("Symmetric", some "__init__"), "__init__", "Symmetric.__init__", defArgs (inClass (top 50) 0), defBody (inClass (top 50) 0), defScope (inClass (top 50) 0), [], []⟩
def d_Symmetric_eq : He.DefD := ⟨("Symmetric", some "__eq__"), "__eq__", "Symmetric.__eq__", defArgs (inClass (top 50) 1), defBody (inClass (top 50) 1), defScope (inClass (top 50) 1), [], []⟩
def d_Symmetric_polynomial : He.DefD := ⟨("Symmetric", some "polynomial"), "polynomial", "Symmetric.polynomial", defArgs (inClass (top 50) 11), defBody (inClass (top 50) 11), defScope (inClass (top 50) 11), [], []⟩
def d_Symmetric_meaning : He.DefD := ⟨("Symmetric", some "meaning"), "meaning", "Symmetric.meaning", defArgs (inClass (top 50) 12), defBody (inClass (top 50) 12), defScope (inClass (top 50) 12), [], []⟩
def fn : List He.DefD := [d_is_integer, d_is_partition, d_size, d_partitions_below, d_partitions, d_part_at, d_holds, d_trimmed, d_rows, d_with_strip, d_count_fillings, d_check_letters, d_is_exponent, d_as_ratio, d_added_terms, d_monomials, d_check_part, d_descending, d_choices, d_coefficient_in, d_added_parts, d_meaning_terms, d_law_table_of, d_law_state, d_law_take, d_law_gcd, d_law_frac, d_law_add, d_law_mul, d_law_pair, d_law_item, d_law_ratio, d_law_exponents, d_law_plus, d_law_sum, d_law_times, d_law_table, d_law_partitions, d_law_basic, d_law_strip_sum, d_law_inner, d_law_polynomial, d_law_function, d_law_made, d_law_expanded, d_law_terms, d_law, d_Ratio_init, d_Ratio_add, d_Ratio_mul, d_Ratio_eq, d_Ratio_is_zero, d_Letters_init, d_Symmetric_init, d_Symmetric_eq, d_Symmetric_polynomial, d_Symmetric_meaning]
def globs0 : List PySem.Str := ["is_integer", "is_partition", "size", "_partitions_below", "partitions", "part_at", "holds", "_trimmed", "_rows", "with_strip", "count_fillings", "check_letters", "is_exponent", "as_ratio", "added_terms", "monomials", "check_part", "descending", "choices", "coefficient_in"]
def globs1 : List PySem.Str := ["added_parts", "meaning_terms", "_law_table_of", "_law_state", "_law_take", "_law_gcd", "_law_frac", "_law_add", "_law_mul", "_law_pair", "_law_item", "_law_ratio", "_law_exponents", "_law_plus", "_law_sum", "_law_times", "_law_table", "_law_partitions", "_law_basic", "_law_strip_sum"]
def globs2 : List PySem.Str := ["_law_inner", "_law_polynomial", "_law_function", "_law_made", "_law_expanded", "_law_terms", "law", "Ratio", "Letters", "Symmetric"]
def globs : List PySem.Str := globs0 ++ globs1 ++ globs2
def frees : List PySem.Str := ["len", "range", "isinstance", "sum", "tuple", "list", "dict", "sorted", "min", "max", "abs", "int", "zip", "all", "bool", "str"]
def fa0 : List He.Fa := [.cls "Ratio", .noat "Ratio" "n", .noat "Ratio" "d", .mkr "Ratio", .cls "Letters", .noat "Letters" "n", .noat "Letters" "terms", .mkr "Letters", .cls "Symmetric", .noat "Symmetric" "base", .noat "Symmetric" "terms", .mkr "Symmetric", .meth "Ratio" "__add__", .meth "Ratio" "__mul__", .meth "Ratio" "__eq__", .meth "Ratio" "is_zero", .meth "Symmetric" "__eq__", .meth "Symmetric" "polynomial", .meth "Symmetric" "meaning", .int "MOST_partition" 12, .int "MOST_letters" 8, .int "MOST_DEGREE" 8, .str "BASES" "mehps"]
def fa : List He.Fa := fa0 ++ (globs.map He.Fa.glo ++ frees.map He.Fa.free)
/-- an empty tuple of the written part -/
def emptyAt (K : PySem.W.Frag) (a : Addr) : Bool := match K.lookup a with
  | some ⟨.type c, _, .seq its _, _⟩ => decide (c = "tuple") && decide (its.size = 0)
  | _ => false
def exC (K : PySem.W.Frag) (x : Str) : Bool := He.eqO (PySem.W.findIn K (.ref (He.ga K x)) "__class__") (some (some (.builtin "object.__class__"))) && (decide (PySem.W.mroIn K (He.ga K x) (.type "object") = some true) && decide (PySem.W.kitOne K (.ref (He.ga K x)) (.ref (He.ga K x)) = some true))
def ex (K : PySem.W.Frag) : Bool := exC K "Ratio" && (exC K "Letters" && (exC K "Symmetric" && (He.eqO (PySem.W.specialIn K (.builtin "object.__class__") "__get__") (some (some (.builtin "getset_descriptor.__get__"))) && (decide (PySem.W.takesIn K (.builtin "object.__class__") = some true) && (He.eqO (PySem.W.nsIn K mainGlobals "gcd") (some (some (.builtin "math.gcd"))) && (emptyAt K (He.dflAt ("count_fillings", none) 0 K) && (PySem.W.selfFirst K (He.ga K "Ratio") && (decide (PySem.W.kitOne K (.type "tuple") (.ref (He.ga K "Symmetric")) = some false) && PySem.W.notFirst K (He.ga K "Symmetric") (.type "tuple")))))))))
def loose0 : List PySem.Str := ["_wall", "Fault", "ZeroDivisor", "Malformed", "Refused", "is_integer", "written_integer", "Ratio", "zero", "one", "is_partition", "size", "_partitions_below", "partitions", "part_at", "turned", "holds", "_trimmed", "_rows", "with_strip"]
def loose1 : List PySem.Str := ["count_fillings", "check_letters", "is_exponent", "as_ratio", "added_terms", "size_text", "letter_text", "term_text", "sum_pieces", "Letters", "of_ratio", "monomials", "check_part", "descending", "choices", "coefficient_in", "added_parts", "part_text", "Symmetric", "meaning_terms"]
def loose2 : List PySem.Str := ["_law_table_of", "_law_state", "_law_take", "_law_gcd", "_law_frac", "_law_add", "_law_mul", "_law_pair", "_law_item", "_law_ratio", "_law_exponents", "_law_plus", "_law_sum", "_law_times", "_law_table", "_law_partitions", "_law_basic", "_law_strip_sum", "_law_inner", "_law_polynomial"]
def loose3 : List PySem.Str := ["_law_function", "_law_made", "_law_expanded", "_law_terms", "__name__", "PIECE", "MOST_partition", "MOST_letters", "BASES", "MOST_DEGREE"]
def loose : List PySem.Str := loose0 ++ loose1 ++ loose2 ++ loose3
end FB
namespace FB
open PySem PySem.Spec PyProof.Rows L2
/-- what these objects name -/
def front (g : Addr → Option Obj) (as : List Addr) : List Addr := (as.flatMap fun a => match g a with
  | some o => He.refsD o
  | none => []).eraseDups
def isDS (g : Addr → Option Obj) (a : Addr) : Bool := match g a with
  | some ⟨_, _, .dict _ _, _⟩ => true
  | some ⟨_, _, .seq _ _, _⟩ => true
  | _ => false
def isFu (g : Addr → Option Obj) (a : Addr) : Bool := match g a with
  | some ⟨_, _, .func _, _⟩ => true
  | _ => false
def as3 (g : Addr → Option Obj) (l1 l2 l3 : List Addr) : List Addr := mainGlobals :: (l1 ++ (l2 ++ (l3 ++ front g (l3.filter (isFu g)))))
def as2 (g : Addr → Option Obj) (l1 l2 : List Addr) : List Addr := as3 g l1 l2 (front g (l2.filter (isDS g)))
def as1 (g : Addr → Option Obj) (l1 : List Addr) : List Addr := as2 g l1 (front g l1)
/-- the addresses that the facts need: the module's names, then dicts, tuples and defs alone -/
def asW (g : Addr → Option Obj) : List Addr := as1 g (front g [mainGlobals])
abbrev headRow : PySem.W.OpenRow := PySem.W.OpenLaw.row PySem.Challenge.rw_fivebases_k21_whole_meanings
def obW (g : Addr → Option Obj) : He.AlD × Bool := (He.obsD fa fn (He.frG g (asW g)), ex (He.frG g (asW g)))
def headHook : PySem.W.Hook where
  α := He.AlD × Bool
  obs := fun s => obW s.heap.get?
  val := fun _ => (He.valD fn, true)
  says := fun _ h => ∃ K : PySem.W.Frag, K.In h ∧ He.SaysD fa fn K ∧ ex K = true
  of := fun _ _ e => ⟨_, He.frG_in, congrArg Prod.fst e, congrArg Prod.snd e⟩
  keeps := fun _ _ _ ⟨K, hK, c⟩ k => ⟨K, PySem.W.Frag.In.keeps hK k, c⟩
def headOb (s : PySem.W.SharedT) : He.AlD × Bool := obW (HandSHeadRun.getT s)
theorem headOb_eq (s : PySem.W.SharedT) : headOb s = headHook.obs s.abs := by
  have e : HandSHeadRun.getT s = s.abs.heap.get? := funext (HandSHeadRun.getT_eq s)
  show obW (HandSHeadRun.getT s) = obW s.abs.heap.get?
  rw [e]
theorem headRun (w : World) : HandSHeadRun.RunEqI headRow (PySem.W.view headRow.prog [0, 77]) headHook headOb 6000 loose w := by
  unfold HandSHeadRun.RunEqI
  kernel_rfl
end FB
namespace FR
open PySem PySem.Spec PyProof.Rows L2
section
variable {prog : Program} {w : World} {A : Around} {E : Value → Shared → Prop} {s : Shared}
/-- an iterator over a tuple is made -/
theorem it_tup {a : Addr} {its : Array Value} {Q : Value → Shared → Prop} (ht : s.heap.IsTuple a its)
    (h : ∀ s2 : Shared, s2 = { s with heap := s.heap.push { cls := .type "tuple_iterator", data := .fields #[.ref a, .int 0 0] } } → s2.heap.IsTupleIter s.heap.objs.size a 0 ∧ s2.heap.IsTuple a its → (∀ b ∈ [s.heap.objs.size, a], b < s2.heap.objs.size) → a ≠ s.heap.objs.size → Q (.ref s.heap.objs.size) s2) :
    wpAny (model prog w) A (pyIter (.ref a)) Q E s := by
  have la : a < s.heap.objs.size := let ⟨_, e, _⟩ := ht; Heap.lt_size e
  refine wpAny_pyIter_tuple ht (h _ rfl ⟨⟨_, Heap.get?_push_size _ rfl, rfl, rfl⟩, ht.at fun o e => Heap.get?_push_of_some _ e⟩ (fun b hb => ?_) (Nat.ne_of_lt la))
  have e1 : (s.heap.push { cls := .type "tuple_iterator", data := .fields #[.ref a, .int 0 0] }).objs.size = s.heap.objs.size + 1 := Heap.size_push _ _
  show b < (s.heap.push { cls := .type "tuple_iterator", data := .fields #[.ref a, .int 0 0] }).objs.size
  rw [e1]
  simp only [List.mem_cons, List.not_mem_nil, or_false] at hb
  rcases hb with z | z
  · rw [z]; exact Nat.lt_succ_self _
  · rw [z]; exact Nat.lt_succ_of_lt la
theorem kept_it {h' h0 : Heap} {ob : Obj} (k : ∀ b o, b ∉ [h0.objs.size] → (h0.push ob).get? b = some o → h'.get? b = some o) : ∀ b o, h0.get? b = some o → h'.get? b = some o := fun b o e =>
  k b o (fun m => by
    simp only [List.mem_cons, List.not_mem_nil, or_false] at m
    rw [m] at e
    exact absurd (Heap.lt_size e) (Nat.lt_irrefl _)) (Heap.get?_push_of_some _ e)
theorem vals_at {ns : List Int} {its : List Value} (r : Vals (ns.map V.int) its) : ∀ i v, its.toArray[i]? = some v → ∃ t, v = Value.int (ns.getD i 0) t := by
  intro i v e
  have e1 : its[i]? = some v := by simpa using e
  have li : i < its.length := (List.getElem?_eq_some_iff.mp e1).1
  have ln : i < ns.length := by
    have q := r.length
    rw [List.length_map] at q
    omega
  obtain ⟨u, hu, ru⟩ := r.get (i := i) (x := V.int ns[i]) (by rw [List.getElem?_map, List.getElem?_eq_getElem ln]; rfl)
  rw [e1] at hu
  obtain ⟨t, et⟩ := ru
  refine ⟨t, ?_⟩
  rw [Option.some.inj hu, et]
  have g : ns.getD i 0 = ns[i] := by rw [List.getD_eq_getElem?_getD, List.getElem?_eq_getElem ln]; rfl
  rw [g]
theorem pre_sum (ns : List Int) : ∀ k, k ≤ ns.length → preSum (fun i => ns.getD i 0) k = (ns.take k).sum
  | 0, _ => by simp [preSum]
  | k + 1, h => by
    have lk : k < ns.length := h
    have g : ns[k]? = some ns[k] := List.getElem?_eq_getElem lk
    have gd : ns.getD k 0 = ns[k] := by rw [List.getD_eq_getElem?_getD, g]; rfl
    rw [sum_take g, preSum, pre_sum ns k (Nat.le_of_succ_le h), gd]
end
section
variable {X : Cx}
/-- sum, max, min of a tuple of whole numbers -/
def rSumU (K : PySem.W.Frag) : List V → Hp → VK → Prop := fun vs H Q => ∃ (a : Addr) (ns : List Int), vs = [V.ref a] ∧ SqT K H a (ns.map V.int) ∧ Q (.int ns.sum) H
def rMaxU (K : PySem.W.Frag) : List V → Hp → VK → Prop := fun vs H Q => ∃ (a : Addr) (ns : List Int), vs = [V.ref a] ∧ SqT K H a (ns.map V.int) ∧ 0 < ns.length ∧ ∀ m, m ∈ ns → (∀ y, y ∈ ns → y ≤ m) → Q (.int m) H
def rMinU (K : PySem.W.Frag) : List V → Hp → VK → Prop := fun vs H Q => ∃ (a : Addr) (ns : List Int), vs = [V.ref a] ∧ SqT K H a (ns.map V.int) ∧ 0 < ns.length ∧ ∀ m, m ∈ ns → (∀ y, y ∈ ns → m ≤ y) → Q (.int m) H
theorem cr_sumU (hc : X.calm = true) : CallR X (.builtin "sum") (rSumU X.K) := by
  intro pins s σ H vs us Q I r h
  obtain ⟨a, ns, ev, hs, q⟩ := h
  subst ev
  obtain ⟨its, rv, ht, _⟩ := I.tuple hs
  have hl : its.length = ns.length := by have z := rv.length; rw [List.length_map] at z; exact z.symm
  rw [Vals.ref1 r]
  refine call_sum_walkG (it_tup (its := its.toArray) ht fun s2 e st hfp hne => ?_)
  subst e
  refine ⟨_, _, _, _, _, _, fun i => ns.getD i 0, rfl, Walks.tuple (A := X.A.in1) (I.ok.hd hc) _ a hne its.toArray, st, hfp, vals_at rv, fun h' tk t' hk => ?_⟩
  have e : preSum (fun i => ns.getD i 0) its.toArray.size = ns.sum := by
    rw [List.size_toArray, hl, pre_sum ns ns.length (Nat.le_refl _), List.take_length]
  rw [e]
  exact ⟨.int _, H, I.kept (kept_it hk), ⟨_, rfl⟩, q⟩
theorem best_of {ns : List Int} {m : Int} {j : Nat} (hj : j ≤ ns.length - 1) (h0 : 0 < ns.length) (e : m = ns.getD j 0) : m ∈ ns := by
  have lj : j < ns.length := by omega
  have g : ns.getD j 0 = ns[j] := by rw [List.getD_eq_getElem?_getD, List.getElem?_eq_getElem lj]; rfl
  rw [e, g]
  exact List.getElem_mem lj
theorem at_mem {ns : List Int} {y : Int} (h : y ∈ ns) : ∃ j, j ≤ ns.length - 1 ∧ ns.getD j 0 = y := by
  obtain ⟨j, hj, e⟩ := List.mem_iff_getElem.mp h
  refine ⟨j, by omega, ?_⟩
  rw [List.getD_eq_getElem?_getD, List.getElem?_eq_getElem hj]
  exact e
theorem cr_maxU (hc : X.calm = true) : CallR X (.builtin "max") (rMaxU X.K) := by
  intro pins s σ H vs us Q I r h
  obtain ⟨a, ns, ev, hs, h0, q⟩ := h
  subst ev
  obtain ⟨its, rv, ht, _⟩ := I.tuple hs
  have hl : its.length = ns.length := by have z := rv.length; rw [List.length_map] at z; exact z.symm
  rw [Vals.ref1 r]
  refine call_max_walk (it_tup (its := its.toArray) ht fun s2 e st hfp hne => ?_)
  subst e
  have hn : its.toArray.size = ns.length := by rw [List.size_toArray, hl]
  refine ⟨_, _, _, _, _, _, _, rfl, Walks.tuple (A := X.A.in1) (I.ok.hd hc) _ a hne its.toArray, st, hfp, by rw [hn]; exact h0, CmpOf.ints_gt (fun i => ns.getD i 0) (vals_at rv), fun v h' tk hP hk => ?_⟩
  obtain ⟨t, et⟩ := vals_at rv _ _ hP
  rw [hn] at et
  obtain ⟨b1, b2⟩ := argBest_gt (fun i => ns.getD i 0) (ns.length - 1)
  refine ⟨.int _, H, I.kept (kept_it hk), ⟨t, et⟩, q _ (best_of b1 h0 rfl) fun y hy => ?_⟩
  obtain ⟨j, hj, ej⟩ := at_mem hy
  have z := b2 j hj
  rw [← ej]
  exact z
theorem cr_minU (hc : X.calm = true) : CallR X (.builtin "min") (rMinU X.K) := by
  intro pins s σ H vs us Q I r h
  obtain ⟨a, ns, ev, hs, h0, q⟩ := h
  subst ev
  obtain ⟨its, rv, ht, _⟩ := I.tuple hs
  have hl : its.length = ns.length := by have z := rv.length; rw [List.length_map] at z; exact z.symm
  rw [Vals.ref1 r]
  refine call_min_walk (it_tup (its := its.toArray) ht fun s2 e st hfp hne => ?_)
  subst e
  have hn : its.toArray.size = ns.length := by rw [List.size_toArray, hl]
  refine ⟨_, _, _, _, _, _, _, rfl, Walks.tuple (A := X.A.in1) (I.ok.hd hc) _ a hne its.toArray, st, hfp, by rw [hn]; exact h0, CmpOf.ints_lt (fun i => ns.getD i 0) (vals_at rv), fun v h' tk hP hk => ?_⟩
  obtain ⟨t, et⟩ := vals_at rv _ _ hP
  rw [hn] at et
  obtain ⟨b1, b2⟩ := argBest_lt (fun i => ns.getD i 0) (ns.length - 1)
  refine ⟨.int _, H, I.kept (kept_it hk), ⟨t, et⟩, q _ (best_of b1 h0 rfl) fun y hy => ?_⟩
  obtain ⟨j, hj, ej⟩ := at_mem hy
  have z := b2 j hj
  rw [← ej]
  exact z
end
end FR
namespace FR
open PySem PySem.Spec PyProof.Rows L2
section
variable {X : Cx} {CX : CXT} {k : Nat} {C f : Addr} {fd : FuncData} {ps : List Str} {sp : Sp} {E : XK}
theorem cmpBack_of {pins : List (Addr × Obj)} {σ : L2.St} {Q : VK} {v : Value} {s : Shared} (h : EP X pins σ Q v s) : PySem.W.CmpBack (EP X pins σ Q) v s := by
  obtain ⟨x, H', I, r, q⟩ := h
  cases v with
  | notImplemented =>
    cases x with
    | int _ => obtain ⟨_, z⟩ := r; cases z
    | str _ => obtain ⟨_, z⟩ := r; cases z
    | byt _ => obtain ⟨_, z⟩ := r; cases z
    | flt _ => obtain ⟨_, z⟩ := r; cases z
    | _ => cases r
  | _ => exact ⟨x, H', I, r, q⟩
/-- an operator of the class's own: x op y by the class's method -/
def rOwn (C : Addr) (sp : Sp) (E : XK) : R2 := fun x y H Q => ∃ a b dx dy fs gs, x = .ref a ∧ y = .ref b ∧ H a = some (.ins C dx fs) ∧ H b = some (.ins C dy gs) ∧ sp [x, y] H Q E
theorem op_own {op : Operator} (F : FnOk X.prog X.w X.K X.mg X.base CX k f fd ps sp) (hr : Room k X.A) (hc : PySem.W.selfFirst X.K C = true) (hs : PySem.W.findIn X.K (.ref C) (PySem.dunder op.info.2) = some (some (.ref f)))
    (hf : PySem.W.isFn X.K (.ref f) = true) (hb : Binds X.K fd ps []) (hx : Passes CX X E) : OpR X (binaryOp op) (rOwn C sp E) := by
  intro pins s σ H x y v u Q I rx ry h
  obtain ⟨a, b, dx, dy, fs, gs, e1, e2, ha, hb', hq⟩ := h
  subst e1 e2
  cases rx
  cases ry
  obtain ⟨mA, J, _⟩ := ins_get I.hok ha
  obtain ⟨mB, J2, _⟩ := ins_get I.hok hb'
  obtain ⟨od, J, _⟩ := J.look
  obtain ⟨od2, J2, _⟩ := J2.look
  obtain ⟨m, hF⟩ := I.fr
  refine PySem.W.binop_K hF I.ok.mod.kin J J2.type hc hs hf ?_
  exact thn (run_fn (us := [.ref a, .ref b]) (vs := [.ref a, .ref b]) (dvs := []) F hr hb .nil hx I (.cons rfl (.cons rfl .nil)) hq) fun v s' z => cmpBack_of z
/-- x == y by the class's own method; y an instance of the class, or a tuple -/
def rOwnEq (C : Addr) (sp : Sp) (E : XK) : R2 := fun x y H Q => ∃ a dx fs, x = .ref a ∧ H a = some (.ins C dx fs) ∧ ((∃ b dy gs, y = .ref b ∧ H b = some (.ins C dy gs)) ∨ ∃ b xs, y = .ref b ∧ H b = some (.tup xs)) ∧ sp [x, y] H Q E
theorem op_ownEq (F : FnOk X.prog X.w X.K X.mg X.base CX k f fd ps sp) (hr : Room k X.A) (hs : PySem.W.findIn X.K (.ref C) "__eq__" = some (some (.ref f))) (hn : PySem.W.notFirst X.K C (.type "tuple") = true)
    (hf : PySem.W.isFn X.K (.ref f) = true) (hb : Binds X.K fd ps []) (hx : Passes CX X E) : OpR X (compareOp .Eq) (rOwnEq C sp E) := by
  intro pins s σ H x y v u Q I rx ry h
  obtain ⟨a, dx, fs, e1, ha, hy, hq⟩ := h
  subst e1
  cases rx
  obtain ⟨mA, J, _⟩ := ins_get I.hok ha
  obtain ⟨od, J, _⟩ := J.look
  obtain ⟨m, hF⟩ := I.fr
  show wpAny (model X.prog X.w) X.A (richCompare .Eq (.ref a) u) (EP X pins σ Q) X.xe s
  rcases hy with ⟨b, dy, gs, e2, hb'⟩ | ⟨b, xs, e2, hb'⟩
  · subst e2
    cases ry
    obtain ⟨mB, J2, _⟩ := ins_get I.hok hb'
    obtain ⟨od2, J2, _⟩ := J2.look
    refine PySem.W.cmp_K (op := .Eq) (tb := .ref C) hr.units0 hF I.ok.mod.kin J J2.type (by simp [PySem.W.notFirst]) hs hf ?_
    exact thn (run_fn (us := [.ref a, .ref b]) (vs := [.ref a, .ref b]) (dvs := []) F hr hb .nil hx I (.cons rfl (.cons rfl .nil)) hq) fun v s' z => cmpBack_of z
  · subst e2
    cases ry
    obtain ⟨_, its, _, o, e, c, _⟩ := (show ObjOk X.prog X.w H s.heap b (.tup xs) from I.hok b _ hb')
    refine PySem.W.cmp_K (op := .Eq) (tb := .type "tuple") hr.units0 hF I.ok.mod.kin J (fun A' Q' E' s' kp q => wpAny_typeOf ⟨o, kp _ _ e, c⟩ q) hn hs hf ?_
    exact thn (run_fn (us := [.ref a, .ref b]) (vs := [.ref a, .ref b]) (dvs := []) F hr hb .nil hx I (.cons rfl (.cons rfl .nil)) hq) fun v s' z => cmpBack_of z
end
/-! ### == with an answer: what D says of two values, in a heap -/
abbrev Eb := V → V → Hp → Bool → Prop
def MonB (D : Eb) : Prop := ∀ x y H H' b, Ext H H' → D x y H b → D x y H' b
def EqB (X : Cx) (n : Nat) (D : Eb) : Prop := ∀ (A : Around) (pins : List (Addr × Obj)) (s : Shared) (σ : L2.St) (H : Hp) (x y : V) (u v : Value) (b : Bool), Sub X n A → Inv X pins σ H s → RelV x u → RelV y v → D x y H b →
  wpAny (model X.prog X.w) A (eqBool u v) (fun r s' => r = b ∧ ∃ H', Inv X pins σ H' s' ∧ Ext H H') X.xe s
def RcB (X : Cx) (n : Nat) (D : Eb) : Prop := ∀ (A : Around) (pins : List (Addr × Obj)) (s : Shared) (σ : L2.St) (H : Hp) (x y : V) (u v : Value) (b : Bool), Sub X n A → Inv X pins σ H s → RelV x u → RelV y v → D x y H b →
  wpAny (model X.prog X.w) A (richCompare .Eq u v) (fun r s' => r = .bool b ∧ ∃ H', Inv X pins σ H' s' ∧ Ext H H') X.xe s
/-- item by item; the first two that differ end it -/
inductive PrB (D : Eb) (H : Hp) : List V → List V → Bool → Prop
  | nil : PrB D H [] [] true
  | left (y : V) (ys : List V) : PrB D H [] (y :: ys) false
  | right (x : V) (xs : List V) : PrB D H (x :: xs) [] false
  | no {x y : V} {xs ys : List V} : D x y H false → PrB D H (x :: xs) (y :: ys) false
  | yes {x y : V} {xs ys : List V} {b : Bool} : D x y H true → PrB D H xs ys b → PrB D H (x :: xs) (y :: ys) b
theorem PrB.mono {D : Eb} (m : MonB D) {H H' : Hp} (e : Ext H H') {xs ys : List V} {b : Bool} (h : PrB D H xs ys b) : PrB D H' xs ys b := by
  induction h with
  | nil => exact .nil
  | left y ys => exact .left y ys
  | right x xs => exact .right x xs
  | no d => exact .no (m _ _ _ _ _ e d)
  | yes d _ ih => exact .yes (m _ _ _ _ _ e d) ih
def DTB (K : PySem.W.Frag) (D : Eb) : Eb := fun x y H b => ∃ a c xs ys, x = .ref a ∧ y = .ref c ∧ SqT K H a xs ∧ SqT K H c ys ∧ PrB D H xs ys b
theorem monB_tup {K : PySem.W.Frag} {D : Eb} (m : MonB D) : MonB (DTB K D) := fun x y H H' b e d => by
  obtain ⟨a, c, xs, ys, h1, h2, h3, h4, p⟩ := d
  exact ⟨a, c, xs, ys, h1, h2, h3.ext e, h4.ext e, p.mono m e⟩
end FR
namespace FRw
open PySem PySem.SeqAt L2 FR
open AutoSeq1 (wpAny_loadPart')
open MeetsSeq MeetsSeq2 MeetsSeq3 SeqRoads2
section
variable {X : Cx} {n : Nat} {D : Eb}
/-- what goes along in the loop: what is left of both, the answer that is due -/
structure LpB (X : Cx) (pins : List (Addr × Obj)) (σ : L2.St) (H : Hp) (D : Eb) (m1 m2 : Nat) (b : Bool) (rest : List (Value × Value)) (s' : Shared) : Prop where
  ex : ∃ (us ws : List Value) (xs ys : List V) (H' : Hp), rest = us.zip ws ∧ Vals xs us ∧ Vals ys ws ∧ Inv X pins σ H' s' ∧ Ext H H' ∧ PrB D H' xs ys b ∧ m1 + ws.length = m2 + us.length
theorem LpB.stop {pins : List (Addr × Obj)} {σ : L2.St} {H : Hp} {m1 m2 : Nat} {b : Bool} {s' : Shared} (h : LpB X pins σ H D m1 m2 b [] s') : (m1 == m2) = b ∧ ∃ H', Inv X pins σ H' s' ∧ Ext H H' := by
  obtain ⟨us, ws, xs, ys, H', e, r1, r2, I, x, p, z⟩ := h.ex
  refine ⟨?_, H', I, x⟩
  have l1 := r1.length
  have l2 := r2.length
  cases p with
  | nil =>
    simp only [List.length_nil] at l1 l2
    have q : m1 = m2 := by omega
    rw [q]; simp
  | left y ys =>
    simp only [List.length_nil, List.length_cons] at l1 l2
    have q : ¬ m1 = m2 := by omega
    simp [q]
  | right x xs =>
    simp only [List.length_nil, List.length_cons] at l1 l2
    have q : ¬ m1 = m2 := by omega
    simp [q]
  | no d =>
    cases us with
    | nil => simp at l1
    | cons u us =>
      cases ws with
      | nil => simp at l2
      | cons w ws => cases e
  | yes d p =>
    cases us with
    | nil => simp at l1
    | cons u us =>
      cases ws with
      | nil => simp at l2
      | cons w ws => cases e
theorem tup_eqB (hD : MonB D) (h : EqB X n D) {A : Around} (sb : Sub X (n + 1) A) {pins : List (Addr × Obj)} {σ : L2.St} {H : Hp} {R : Result → Shared → Prop} {b : Bool} (l c : Addr) (us ws : Array Value) (n1 n2 : Nat) (dd dd2 : Option Addr) (sl sl2 : Array (Option Value)) {s : Shared}
    (hl : s.heap.get? l = some { cls := .type "tuple", dict := dd, data := .seq us n1, slots := sl }) (hc : s.heap.get? c = some { cls := .type "tuple", dict := dd2, data := .seq ws n2, slots := sl2 })
    (hI : LpB X pins σ H D us.size ws.size b (us.toList.zip ws.toList) s) (hx : ∀ e s', X.xe e s' → R (.error e) s') (fin : ∀ s', (∃ H', Inv X pins σ H' s' ∧ Ext H H') → R (.ok (.ret (.bool b))) s') :
    wpAny (model X.prog X.w) A.in1 (Builtin.«tuple.__eq__» ⟨[.ref l, .ref c], []⟩) (GQ.FinOf X.prog X.w A R) (fun e s' => R (.error e) s') s := by
  have f2 := AutoSeq1.sub_tuple_tuple
  have hI0 := hI
  obtain ⟨hp, g, d, tk, os⟩ := s
  wp_walk using wpAny_loadPart' hl, wpAny_loadPart' hc, wpAny_forIn_list _ (fun rest z s' => z.1 = none ∧ LpB X pins σ H D us.size ws.size b rest s') _
  case turn =>
    rintro ⟨u, w⟩ rest z s' ⟨hz, hL⟩
    obtain ⟨us', ws', xs, ys, H', e, r1, r2, I, x, p, q⟩ := hL.ex
    cases us' with
    | nil => cases e
    | cons u' us' =>
      cases ws' with
      | nil => cases e
      | cons w' ws' =>
        cases e
        cases r1 with
        | cons a1 t1 =>
          cases r2 with
          | cons a2 t2 =>
            cases p with
            | no d =>
              refine wpAny_bind (wpAny_mono (h A.in1 pins s' σ H' _ _ _ _ false sb.in1 I a1 a2 d) (fun r s2 k => ?_) hx)
              obtain ⟨k1, H2, I2, x2⟩ := k
              subst k1
              wp_walk
              exact fin s2 ⟨H2, I2, x.trans x2⟩
            | yes d p =>
              refine wpAny_bind (wpAny_mono (h A.in1 pins s' σ H' _ _ _ _ true sb.in1 I a1 a2 d) (fun r s2 k => ?_) hx)
              obtain ⟨k1, H2, I2, x2⟩ := k
              subst k1
              wp_walk
              simp only [List.length_cons] at q
              exact ⟨rfl, ⟨us', ws', _, _, H2, rfl, t1, t2, I2, x.trans x2, p.mono hD x2, by omega⟩⟩
  case fin =>
    rintro ⟨b1, b2⟩ s' ⟨hz, hL⟩
    simp only at hz
    subst hz
    obtain ⟨e1, e2⟩ := hL.stop
    have hR := fin s' e2
    rw [← e1] at hR
    wp_walk
    simpa [Builtin.Tuple.tupleCompareSizes] using hR
  case h => exact ⟨rfl, hI0⟩
end
end FRw
namespace FR
open PySem PySem.Spec PyProof.Rows L2
section
variable {X : Cx} {n m : Nat} {D : Eb}
theorem EqB.mono (h : EqB X n D) (hn : n ≤ m) : EqB X m D := fun A pins s σ H x y u v b sb => h A pins s σ H x y u v b (sb.mono hn)
theorem rcB_tup (hD : MonB D) (h : EqB X n D) : RcB X (n + 1) (DTB X.K D) := by
  intro A pins s σ H x y u v b sb I rx ry d
  obtain ⟨a, c, xs, ys, e1, e2, ha, hc, p⟩ := d
  subst e1 e2
  cases rx
  cases ry
  obtain ⟨its, r1, ⟨⟨cls1, dd1, dt1, sl1⟩, g1, c1, n1, d1⟩, _⟩ := I.tuple ha
  obtain ⟨its2, r2, ⟨⟨cls2, dd2, dt2, sl2⟩, g2, c2, n2, d2⟩, _⟩ := I.tuple hc
  simp only at c1 d1 c2 d2
  subst c1 d1 c2 d2
  refine wpAny_richCompare_same_room (op := .Eq) ⟨_, g1, rfl⟩ ⟨_, g2, rfl⟩ F.slot_tuple_eq (GQ.call_here F.slot_tuple_eq ⟨_, g1, rfl⟩ F.entry_tuple_eq (F.args_tuple_eq_2 _ _) ?_) sb.room.units0
  refine FRw.tup_eqB (X := X) (b := b) (pins := pins) (σ := σ) (H := H) hD h sb a c its.toArray its2.toArray n1 n2 dd1 dd2 sl1 sl2 g1 g2 ⟨its, its2, xs, ys, H, rfl, r1, r2, I, Ext.rfl', p, ?_⟩ (fun e s' z => z) (fun s' q => ⟨(fun z => nomatch z), rfl, q⟩)
  simp only [List.size_toArray]
  omega
theorem RcB.eqB (h : RcB X n D) (hr : ∀ x y H b, D x y H b → ∃ a c, x = .ref a ∧ y = .ref c ∧ (a = c → b = true)) : EqB X n D := by
  intro A pins s σ H x y u v b sb I rx ry d
  obtain ⟨a, c, e1, e2, es⟩ := hr _ _ _ _ d
  subst e1 e2
  cases rx
  cases ry
  by_cases hac : a = c
  · have eb := es hac
    subst hac eb
    exact SeqAt.EqAt.same (A := A) (s := s) (.ref a) X.prog X.w X.xe _ ⟨rfl, H, I, Ext.rfl'⟩
  · refine GQ.eqBool_refG hac (wpAny_mono (h A pins s σ H (.ref a) (.ref c) _ _ b sb I rfl rfl d) (fun r s' q => ?_) fun _ _ x => x)
    obtain ⟨q1, q2⟩ := q
    exact ⟨b, q1, rfl, q2⟩
/-- two whole numbers -/
def DIB : Eb := fun x y _ b => ∃ i j, x = .int i ∧ y = .int j ∧ b = decide (i = j)
theorem monB_int : MonB DIB := fun _ _ _ _ _ _ d => d
theorem eqB_int : EqB X 0 DIB := by
  intro A pins s σ H x y u v b sb I rx ry d
  obtain ⟨i, j, e1, e2, eb⟩ := d
  subst e1 e2
  have q := eqAt_V (A := A) (s := s) rx ry rfl rfl
  have e : eqV (.int i) (.int j) = b := by rw [eb]; exact Bool.beq_eq_decide_eq i j
  rw [e] at q
  exact q X.prog X.w X.xe _ ⟨rfl, H, I, Ext.rfl'⟩
/-- instances of the class at C by its own ==, of which the promise sp is kept; R says the answer -/
def DNB (C : Addr) (R : Addr → Addr → Hp → Bool → Prop) : Eb := fun x y H b => ∃ a c dx dy fs gs, x = .ref a ∧ y = .ref c ∧ H a = some (.ins C dx fs) ∧ H c = some (.ins C dy gs) ∧ R a c H b
def spEqB (R : Addr → Addr → Hp → Bool → Prop) : Sp := fun vs H Q _ => ∃ a c b, vs = [.ref a, .ref c] ∧ R a c H b ∧ ∀ H', Ext H H' → Q (.bl b) H'
theorem rcB_ins {CX : CXT} {C f : Addr} {fd : FuncData} {ps : List Str} {R : Addr → Addr → Hp → Bool → Prop} {E : XK} (F : FnOk X.prog X.w X.K X.mg X.base CX n f fd ps (spEqB R))
    (hs : PySem.W.findIn X.K (.ref C) "__eq__" = some (some (.ref f))) (hf : PySem.W.isFn X.K (.ref f) = true) (hb : Binds X.K fd ps []) (hx : Passes CX X E) : RcB X n (DNB C R) := by
  intro A pins s σ H x y u v b sb I rx ry d
  obtain ⟨a, c, dx, dy, fs, gs, e1, e2, ha, hc, hr⟩ := d
  subst e1 e2
  cases rx
  cases ry
  obtain ⟨mA, J, _⟩ := ins_get I.hok ha
  obtain ⟨mB, J', _⟩ := ins_get I.hok hc
  obtain ⟨od, J, _⟩ := J.look
  obtain ⟨od', J', _⟩ := J'.look
  obtain ⟨m, hF⟩ := I.fr
  refine PySem.W.cmp_K (op := .Eq) (tb := .ref C) sb.room.units0 hF I.ok.mod.kin J J'.type (by simp [PySem.W.notFirst]) hs hf ?_
  have hq : spEqB R [.ref a, .ref c] H (fun v H' => v = .bl b ∧ Ext H H') E := ⟨a, c, b, rfl, hr, fun H' e => ⟨rfl, e⟩⟩
  have ev : Env0 X.prog X.w X.K X.mg X.base A X.stack s H := by
    have e := I.env0
    exact ⟨by rw [sb.fr]; exact e.frames, e.mod, e.bs, e.bsz, e.funs, e.frf, e.hok, e.bare⟩
  have hl := F.len _ _ _ _ hq
  have rv : Vals [V.ref a, V.ref c] [Value.ref a, Value.ref c] := .cons rfl (.cons rfl .nil)
  have hbb := hb s [.ref a, .ref c] I.kIn (by simpa using hl)
  refine wpAny_call (codeAny_mono (F.run A X.stack s H ⟨[.ref a, .ref c], []⟩ [.ref a, .ref c] [.ref a, .ref c] _ E sb.room ev (by simpa using hbb) rv hq) fun r s' z => ?_)
  cases r with
  | error e => exact hx pins σ H s e s' I z
  | ok fl =>
    cases fl with
    | ret w =>
      obtain ⟨v', H', I', rz, ez, ex⟩ := I.after z
      subst ez
      cases rz
      exact ⟨rfl, H', I', ex⟩
    | _ => exact False.elim z
/-- x == y -/
def rEqB (D : Eb) : R2 := fun x y H Q => ∃ b, D x y H b ∧ ∀ H', Ext H H' → Q (.bl b) H'
theorem op_eqB (h : RcB X n D) (hr : Room n X.A) : OpR X (compareOp .Eq) (rEqB D) := by
  intro pins s σ H x y v u Q I rx ry hq
  obtain ⟨b, d, q⟩ := hq
  show wpAny (model X.prog X.w) X.A (richCompare .Eq v u) (EP X pins σ Q) X.xe s
  refine wpAny_mono (h X.A pins s σ H x y v u b ⟨hr, rfl⟩ I rx ry d) (fun r s' z => ?_) fun _ _ x => x
  obtain ⟨e, H', I', x⟩ := z
  subst e
  exact ⟨.bl b, H', I', rfl, q H' x⟩
end
end FR
namespace FR
open PySem PySem.Spec PyProof.Rows L2
/-! ### sorted of anything that is collected -/
/-- the keywords say the order -/
inductive KwB : List (Str × Value) → Bool → Prop
  | none : KwB [] false
  | rev (b : Bool) : KwB [(Str.ofString "reverse", .bool b)] b
theorem KwB.srt {kw : List (Str × Value)} {b : Bool} (h : KwB kw b) (a : Addr) : Builtin.«list.sort» ⟨[.ref a], kw⟩ = Builtin.«list.sort» ⟨[.ref a], [(Str.ofString "reverse", .bool b)]⟩ := by
  cases h with
  | none => exact PySem.W.plain_is_rev a
  | rev b => rfl
theorem KwB.a1 {kw : List (Str × Value)} {b : Bool} (h : KwB kw b) (a : Value) : argsOk "sorted" ⟨[a], kw⟩ := by
  cases h with
  | none => exact args_sorted1 a
  | rev b => exact args_sorted_rev a _
theorem KwB.a2 {kw : List (Str × Value)} {b : Bool} (h : KwB kw b) (a : Value) : argsOk "list.sort" ⟨[a], kw⟩ := by
  cases h with
  | none => exact args_list_sort a
  | rev b => exact args_list_sort_rev a _
section
variable {prog : Program} {w : World} {A : Around} {E : Value → Shared → Prop} {s : Shared}
theorem sorted_col {v : Value} {vs : List Value} {kw : List (Str × Value)} {b : Bool} (hk : KwB kw b) (hz : vs.length ≤ sizeLine) {Q : Value → Shared → Prop}
    (col : ∀ Q' : List Value → Shared → Prop, (∀ h' tk, (∀ c o, s.heap.get? c = some o → h'.get? c = some o) → Q' vs { s with heap := h', toks := tk }) → wpAny (model prog w) A.in1 (collect v) Q' E s)
    (body : ∀ (h' : Heap) (tk : Nat), (∀ c o, s.heap.get? c = some o → h'.get? c = some o) → wpAny (model prog w) A.in1.in1 (Builtin.«list.sort» ⟨[.ref h'.objs.size], [(Str.ofString "reverse", .bool b)]⟩) (fun f s' => f = .done (.ret .none) ∧ Q (.ref h'.objs.size) s') E { s with heap := h'.push (seqObj "list" vs.toArray 0), toks := tk }) :
    wpAny (model prog w) A (call (.builtin "sorted") [v] kw) Q E s := by
  refine call_function_entry_kw kind_sorted plain_sorted entry_sorted (hk.a1 v) ?_
  unfold Builtin.«sorted»
  refine wpAny_bind (m := checkCount "sorted" 1 1 _) (wpAny_pure ?_)
  refine wpAny_bind (col _ fun h' tk kp => ?_)
  refine wpAny_bind (wpAny_newList ?_ hz)
  have hL : (h'.push (seqObj "list" vs.toArray 0)).get? h'.objs.size = some (seqObj "list" vs.toArray 0) := Heap.get?_push_size _ rfl
  show wpAny _ _ _ _ _ { s with heap := h'.push (seqObj "list" vs.toArray 0), toks := tk }
  refine wpAny_bind (wpAny_holding (wpAny_call_entry_kw slot_list_sort ⟨_, hL, rfl⟩ entry_list_sort ?_ (hk.a2 _)))
  rw [hk.srt]
  refine wpAny_mono (body h' tk kp) (fun f s' q => ?_) fun _ _ e => e
  obtain ⟨q1, q2⟩ := q
  exact ⟨.none, q1, wpAny_pure ⟨_, rfl, q2⟩⟩
end
/-! ### tuples of whole numbers in order -/
/-- by the tuples' own order -/
def tLe (b : Bool) (x y : List Int) : Bool := if b then decide (y ≤ x) else decide (x ≤ y)
def encT (p : Addr × List Int) : PyData := .tuple (p.2.map .int)
theorem dataLe_tup (b : Bool) : PySem.W.dataLe b encT = fun p q => tLe b p.2 q.2 := by
  have hl : ∀ p q : Addr × List Int, PySem.W.dataLt (encT p) (encT q) = decide (p.2 < q.2) := fun p q => PySem.W.dataLt_ints p.2 q.2
  rw [PySem.W.dataLe_eq]
  funext p q
  cases b with
  | false =>
    show (!PySem.W.dataLt (encT q) (encT p)) = decide (p.2 ≤ q.2)
    rw [hl]
    by_cases c : p.2 ≤ q.2
    · rw [decide_eq_true c]; simp [List.not_lt.mpr c]
    · rw [decide_eq_false c]; simp [List.not_le.mp c]
  | true =>
    show (!PySem.W.dataLt (encT p) (encT q)) = decide (q.2 ≤ p.2)
    rw [hl]
    by_cases c : q.2 ≤ p.2
    · rw [decide_eq_true c]; simp [List.not_lt.mpr c]
    · rw [decide_eq_false c]; simp [List.not_le.mp c]
theorem each_ref : ∀ {L : List (Addr × List Int)} {out : List Value}, PySem.W.EachIs (fun v b => v = Value.ref b.1) out L → out = L.map fun x => Value.ref x.1
  | [], _, .nil => rfl
  | b :: L, _, .cons h t => by rw [h, each_ref t]; rfl
theorem ref_each : ∀ L : List (Addr × List Int), PySem.W.EachIs (fun v b => v = Value.ref b.1) (L.map fun x => Value.ref x.1) L
  | [] => .nil
  | b :: L => .cons rfl (ref_each L)
theorem each_of {R : Value → Addr × List Int → Prop} : ∀ L : List (Addr × List Int), (∀ x ∈ L, R (.ref x.1) x) → PySem.W.EachIs R (L.map fun x => Value.ref x.1) L
  | [], _ => .nil
  | b :: L, h => .cons (h b (List.mem_cons_self ..)) (each_of L fun x m => h x (List.mem_cons_of_mem _ m))
theorem readsAll_ints {h : Heap} : ∀ {ns : List Int} {us : List Value}, Vals (ns.map V.int) us → ReadsAll h us (ns.map .int) []
  | [], us, r => by
    rw [List.map_nil] at r
    cases r
    exact .nil
  | n :: ns, us, r => by
    rw [List.map_cons] at r
    cases r with
    | cons a t =>
      obtain ⟨tk, e⟩ := a
      subst e
      exact .cons (as := []) (bs := []) (.int n tk) (readsAll_ints t)
theorem depth_tup (p : Addr × List Int) : (encT p).depth ≤ 1 := by
  have e := PySem.W.depth_ints p.2
  unfold encT
  simp [PyData.depth, e]
section
variable {X : Cx} {pins : List (Addr × Obj)} {σ : L2.St} {H : Hp} {s : Shared}
theorem srt_mem {L : List (Addr × List Int)} {b : Bool} {x : Addr × List Int} (h : x ∈ L.mergeSort fun p q => tLe b p.2 q.2) : x ∈ L := (List.mergeSort_perm L _).mem_iff.mp h
/-- what sorting a list of such tuples leaves: in the heap h' behind the collecting -/
theorem srt_tups {A : Around} {E : Value → Shared → Prop} (I : Inv X pins σ H s) (hu : A.units + 64 < cLine) (L : List (Addr × List Int)) (b : Bool) (hz : L.length ≤ 100000) (hL : ∀ x ∈ L, H x.1 = some (.tup (x.2.map V.int))) (h1 : L.length ≤ 1 ∨ ∀ x ∈ L, x.2 ≠ []) {Q : VK}
    (q : ∀ p, H p = none → Q (.ref p) (upd H p (.lst ((L.mergeSort fun x y => tLe b x.2 y.2).map fun x => V.ref x.1)))) :
    wpAny (model X.prog X.w) A (Builtin.«list.sort» ⟨[.ref s.heap.objs.size], [(Str.ofString "reverse", .bool b)]⟩) (fun f s' => f = .done (.ret .none) ∧ EP X pins σ Q (.ref s.heap.objs.size) s') E { s with heap := s.heap.push (seqObj "list" (L.map fun x => Value.ref x.1).toArray 0) } := by
  have hoL : (s.heap.push (seqObj "list" (L.map fun x => Value.ref x.1).toArray 0)).get? s.heap.objs.size = some (seqObj "list" (L.map fun x => Value.ref x.1).toArray 0) := Heap.get?_push_size _ rfl
  have fin : ∀ out : List Value, out = (L.mergeSort fun x y => tLe b x.2 y.2).map (fun x => Value.ref x.1) → EP X pins σ Q (.ref s.heap.objs.size) { s with heap := sortedHeap (s.heap.push (seqObj "list" (L.map fun x => Value.ref x.1).toArray 0)) s.heap.objs.size (L.map fun x => Value.ref x.1) out.toArray } := by
    intro out eo
    obtain ⟨ep, he⟩ := sortedHeap_at (vs := L.map fun x => Value.ref x.1) (out := out.toArray) hoL
    refine ⟨.ref _, _, I.laid (a := s.heap.objs.size) (o := .lst ((L.mergeSort fun x y => tLe b x.2 y.2).map fun x => V.ref x.1)) (t' := s.toks) (fun c u e => ?_) (Nat.le_refl _) ⟨?_, out, ep, ?_, he⟩, rfl, q _ (I.hok.fresh (Nat.le_refl _))⟩
    · have lc : c < s.heap.objs.size := Heap.lt_size e
      rw [sortedHeap_old (Nat.ne_of_lt lc) (by rw [size_push']; exact Nat.lt_succ_of_lt lc)]
      exact Heap.get?_push_of_some _ e
    · rw [List.length_map, List.length_mergeSort]
      exact Nat.le_trans hz (by rw [sizeLine_eq]; decide)
    · rw [eo]
      generalize (L.mergeSort fun x y => tLe b x.2 y.2) = M
      induction M with
      | nil => exact .nil
      | cons x M ih => exact .cons rfl ih
  have hln : (L.map fun x => Value.ref x.1).length ≤ sizeLine := by
    rw [List.length_map]
    exact Nat.le_trans hz (by rw [sizeLine_eq]; decide)
  rcases h1 with h1 | h1
  · -- one at most
    refine SrtR.list_sort_ordR (s := { s with heap := s.heap.push (seqObj "list" (L.map fun x => Value.ref x.1).toArray 0) }) (a := s.heap.objs.size) (vs := L.map fun x => Value.ref x.1) (n := 0) (b := b) (ltv := fun _ _ => false) ⟨fun _ _ _ => rfl, fun _ _ _ _ h => h⟩ hoL hln (fun h2 => ?_) fun out h2 h3 => ⟨rfl, ?_⟩
    · rw [List.length_map] at h2
      exact absurd h1 (by omega)
    · have hp := h3.perm
      obtain ⟨e1, e2⟩ : L.mergeSort (fun x y => tLe b x.2 y.2) = L ∧ (if b = true then (L.map fun x => Value.ref x.1).reverse else L.map fun x => Value.ref x.1) = L.map fun x => Value.ref x.1 := by
        match L, h1 with
        | [], _ => exact ⟨by simp, by cases b <;> rfl⟩
        | [x], _ => exact ⟨by simp, by cases b <;> rfl⟩
      rw [e2] at hp
      obtain ⟨e3, e4⟩ : out = (L.map fun x => Value.ref x.1) ∧ (if b = true then out.toArray.reverse else out.toArray) = out.toArray := by
        clear fin hoL hln h3 e1 e2
        match L, h1, hp with
        | [], _, hp =>
          have e : out = [] := hp.eq_nil
          subst e
          exact ⟨rfl, by cases b <;> rfl⟩
        | [x], _, hp =>
          have e : out = [Value.ref x.1] := List.perm_singleton.mp hp
          subst e
          exact ⟨rfl, by cases b <;> rfl⟩
      rw [e4]
      exact fin out (by rw [e1]; exact e3)
  · have hr : PySem.W.EachIs (fun v b => ∃ as, Reads (s.heap.push (seqObj "list" (L.map fun x => Value.ref x.1).toArray 0)) v (encT b) as) (L.map fun x => Value.ref x.1) L := each_of L fun x m => by
      obtain ⟨_, us, r, o, e, c, n, d⟩ := (show ObjOk X.prog X.w H s.heap x.1 (.tup (x.2.map V.int)) from I.hok _ _ (hL x m))
      exact ⟨[], Reads.tuple (Heap.get?_push_of_some _ e) c d (by simpa using readsAll_ints r)⟩
    have er' : PySem.W.EachIs (fun v d => ∃ as, Reads (PySem.W.sortingHeap (s.heap.push (seqObj "list" (L.map fun x => Value.ref x.1).toArray 0)) s.heap.objs.size (L.map fun x => Value.ref x.1)) v (encT d) as) (L.map fun x => Value.ref x.1) L := each_of L fun x m => by
      obtain ⟨_, us, r, o, e, c, n, d⟩ := (show ObjOk X.prog X.w H s.heap x.1 (.tup (x.2.map V.int)) from I.hok _ _ (hL x m))
      exact ⟨[], Reads.tuple (PySem.W.sortingHeap_old (Nat.ne_of_lt (Heap.lt_size e)) (Heap.get?_push_of_some _ e)) c d (by simpa using readsAll_ints r)⟩
    have hal : PySem.W.AllAlike (L.map encT) := PySem.W.AllAlike.of fun p q => PySem.W.alike_ints p.2 q.2
    have hk : PySem.W.Sortable (L.map encT) := .inl fun d hd => by
      obtain ⟨x, m, e⟩ := List.mem_map.mp hd
      cases hx : x.2 with
      | nil => exact absurd hx (h1 x m)
      | cons y r => exact ⟨.int y, r.map .int, by rw [← e]; unfold encT; rw [hx]; rfl⟩
    have hd : ∀ d, d ∈ L.map encT → A.units + d.depth < cLine := fun d hd => by
      obtain ⟨x, m, e⟩ := List.mem_map.mp hd
      have z := depth_tup x
      rw [e] at z
      omega
    have e := each_ref (PySem.W.sortVals_data b (ref_each L) er' hal)
    rw [dataLe_tup] at e
    have er2 := PySem.W.each_map (R := fun v d => ∃ as, Reads (PySem.W.sortingHeap (s.heap.push (seqObj "list" (L.map fun x => Value.ref x.1).toArray 0)) s.heap.objs.size (L.map fun x => Value.ref x.1)) v d as) encT er'
    have hL' := fin _ e
    clear fin e er' hr
    revert er2 hL'
    generalize L.map encT = ds at *
    generalize (L.map fun x => Value.ref x.1) = vs at *
    generalize s.heap.push (seqObj "list" vs.toArray 0) = h2 at *
    intro er2 hL'
    have S : PySem.W.SortsAt X.prog X.w A { s with heap := PySem.W.sortingHeap h2 s.heap.objs.size vs } (PySem.W.dataKind (PySem.W.sortingHeap h2 s.heap.objs.size vs) ds) vs := PySem.W.SortsAt.data (s := { s with heap := PySem.W.sortingHeap h2 s.heap.objs.size vs }) er2 hal hk hd
    exact PySem.W.list_sort_rev_vals (s := { s with heap := h2 }) (a := s.heap.objs.size) (vs := vs) (n := 0) (b := b) hoL S hln ⟨rfl, hL'⟩
end
end FR
namespace FR
open PySem PySem.Spec PyProof.Rows L2
section
variable {X : Cx}
theorem keys_pair {H : Hp} {F : List Key × V → List Key × Addr × Value → Prop} (hF : ∀ p q, F p q → H q.2.1 = some (.tup (p.1.map kV))) : ∀ {kvs : List (List Key × V)} {xs : List (List Key × Addr × Value)} {ks : List (List Int)}, Paired F kvs xs → kvs.map (·.1) = ks.map (·.map Sum.inl) →
    ∃ L : List (Addr × List Int), L.map (·.2) = ks ∧ (L.map fun x => Value.ref x.1) = xs.map (fun x => Value.ref x.2.1) ∧ ∀ x ∈ L, H x.1 = some (.tup (x.2.map V.int))
  | [], _, [], .nil, _ => ⟨[], rfl, rfl, fun _ m => nomatch m⟩
  | [], _, _ :: _, _, e => by simp at e
  | _ :: _, _, [], _, e => by simp at e
  | p :: kvs, q :: xs, k :: ks, .cons h t, e => by
    simp only [List.map_cons, List.cons.injEq] at e
    obtain ⟨L, e1, e2, e3⟩ := keys_pair hF t e.2
    refine ⟨(q.2.1, k) :: L, by simp [e1], by simp [e2], fun x m => ?_⟩
    rcases List.mem_cons.mp m with z | z
    · rw [z]
      have g := hF p q h
      rw [e.1, List.map_map] at g
      exact g
    · exact e3 x z
theorem ms_snd (b : Bool) (L : List (Addr × List Int)) : (L.mergeSort fun x y => tLe b x.2 y.2).map (·.2) = (L.map (·.2)).mergeSort (tLe b) :=
  List.map_mergeSort (f := fun x : Addr × List Int => x.2) fun _ _ _ _ => rfl
/-- sorted(d), sorted(d, reverse=b) of a dict whose keys are tuples of whole numbers -/
def rSortD (b : Bool) : List V → Hp → VK → Prop := fun vs H Q => ∃ (d : Addr) (kvs : List (List Key × V)) (ks : List (List Int)), vs = [.ref d] ∧ Rd H d (.dT kvs) ∧ kvs.map (·.1) = ks.map (·.map Sum.inl) ∧ ks.length ≤ 100000 ∧ (ks.length ≤ 1 ∨ ∀ k ∈ ks, k ≠ []) ∧
  ∀ (L : List (Addr × List Int)) (p : Addr), L.map (·.2) = ks.mergeSort (tLe b) → (∀ x ∈ L, H x.1 = some (.tup (x.2.map V.int))) → H p = none → Q (.ref p) (upd H p (.lst (L.map fun x => V.ref x.1)))
theorem sortD_run {b : Bool} {kw : List (Str × Value)} (hk : KwB kw b) (hc : X.calm = true) (hr : Room 2 X.A) {pins : List (Addr × Obj)} {σ : L2.St} {H : Hp} {s : Shared} {d : Addr} {Q : VK} (I : Inv X pins σ H s) (h : rSortD b [.ref d] H Q) :
    wpAny (model X.prog X.w) X.A (call (.builtin "sorted") [.ref d] kw) (EP X pins σ Q) X.xe s := by
  obtain ⟨d', kvs, ks, ed, hd, hks, hz, h1, q⟩ := h
  cases ed
  obtain ⟨z, hs, xs, pr, o, es, ep, ho, hx, hdt, he, hn⟩ := (show ObjOk X.prog X.w H s.heap d (.dT kvs) from hd.ok I.hok)
  obtain ⟨L, l1, l2, l3⟩ := keys_pair (fun p q r => r.2.1) pr hks
  have hl : L.length = ks.length := by rw [← l1, List.length_map]
  have sx : es.size = xs.length := size_of_entries he
  have lx : xs.length = L.length := by
    have e := congrArg List.length l2
    rw [List.length_map, List.length_map] at e
    exact e.symm
  have hline : L.length ≤ sizeLine := by rw [hl]; exact Nat.le_trans hz (by rw [sizeLine_eq]; decide)
  refine sorted_col (vs := L.map fun x => Value.ref x.1) hk (by rw [List.length_map]; exact hline) (fun Q' k => ?_) fun h' tk kp => ?_
  · refine PySem.W.kdu_collect (A := X.A.in1) (kdl_raw hs hx hdt) (I.ok.hd hc) ho (by omega) fun h' tk acc kp it => ?_
    have ea : acc.toList = L.map fun x => Value.ref x.1 := by
      rw [l2]
      have hlen : acc.toList.length = xs.length := by rw [Array.length_toList, it.1, sx]
      apply List.ext_getElem?
      intro j
      rw [List.getElem?_map]
      cases hj : acc.toList[j]? with
      | none =>
        have g := List.getElem?_eq_none_iff.mp hj
        rw [List.getElem?_eq_none (by omega)]
        rfl
      | some v =>
        obtain ⟨en, hen, hv⟩ := it.2 j v (by rw [← Array.getElem?_toList]; exact hj)
        have qe := entry_at he j
        rw [hen] at qe
        cases hb : xs[j]? with
        | none => rw [hb] at qe; exact nomatch (show some en = none from qe)
        | some y =>
          rw [hb] at qe
          have e2 : en = entryOfKey (tupleKind (mixKind X.prog X.w)) y := Option.some.inj qe
          rw [hv, e2]
          rfl
    rw [ea]
    exact k h' tk kp
  · refine srt_tups (s := { s with heap := h', toks := tk }) (I.kept kp) hr.in1.in1.units L b (by omega) l3 ?_ fun p np => ?_
    · rcases h1 with h1 | h1
      · exact .inl (by omega)
      · exact .inr fun x m => h1 _ (by rw [← l1]; exact List.mem_map.mpr ⟨x, m, rfl⟩)
    · refine q _ p ?_ (fun x m => l3 x (srt_mem m)) np
      rw [ms_snd, l1]
theorem cr_sortedD (hc : X.calm = true) (hr : Room 2 X.A) : CallR X (.builtin "sorted") (rSortD false) := by
  intro pins s σ H xs us Q I r h
  obtain ⟨d, kvs, ks, ed, _⟩ := id h
  subst ed
  rw [Vals.ref1 r]
  exact sortD_run .none hc hr I h
theorem cr_sortedDR {b : Bool} (hc : X.calm = true) (hr : Room 2 X.A) : CallRK X (.builtin "sorted") [Str.ofString "reverse"] (fun vs zs H Q => zs = [.bl b] ∧ rSortD b vs H Q) := by
  intro pins s σ H vs zs us ws Q I r rz h
  obtain ⟨ez, h⟩ := h
  obtain ⟨d, kvs, ks, ed, _⟩ := id h
  subst ed ez
  obtain ⟨w1, e1, e2⟩ := vals1 rz
  have e3 : w1 = Value.bool b := e2
  subst e1 e3
  rw [Vals.ref1 r]
  exact sortD_run (.rev b) hc hr I h
/-- sorted(t, reverse=b) of a tuple of whole numbers -/
def rSortU (K : PySem.W.Frag) (b : Bool) : List V → List V → Hp → VK → Prop := fun vs zs H Q => ∃ (a : Addr) (ns : List Int), vs = [V.ref a] ∧ zs = [.bl b] ∧ SqT K H a (ns.map V.int) ∧
  ∀ (ns' : List Int) (p : Addr), ns'.Perm ns → OrdB b ns' → H p = none → Q (.ref p) (upd H p (.lst (ns'.map V.int)))
theorem cr_sortedU {b : Bool} : CallRK X (.builtin "sorted") [Str.ofString "reverse"] (rSortU X.K b) := by
  intro pins s σ H vs zs us ws Q I r rz h
  obtain ⟨a, ns, e1, e2, hs, q⟩ := h
  subst e1 e2
  rw [Vals.ref1 r]
  obtain ⟨w1, e1, e2⟩ := vals1 rz
  have e3 : w1 = Value.bool b := e2
  subst e1 e3
  obtain ⟨its, rv, ⟨o, e, c, n, hd⟩, hz⟩ := I.tuple hs
  have hi := rv.ints
  have hl : its.length = ns.length := by have z := rv.length; rw [List.length_map] at z; exact z.symm
  have hline : its.length ≤ sizeLine := by rw [← rv.length]; exact hz
  refine sorted_col (vs := its) (.rev b) hline (fun Q' k => ?_) fun h' tk kp => ?_
  · refine wpAny_collect_seq a (.inr rfl) e c hd (fun h' hk => ?_) (by rw [List.size_toArray]; exact hline)
    have z := k h' s.toks hk
    exact z
  · have I' : Inv X pins σ H { s with heap := h', toks := tk } := I.kept kp
    have hoL : (h'.push (seqObj "list" its.toArray 0)).get? h'.objs.size = some (seqObj "list" its.toArray 0) := Heap.get?_push_size _ rfl
    refine SrtR.list_sort_ordR (s := { s with heap := h'.push (seqObj "list" its.toArray 0), toks := tk }) (a := h'.objs.size) (vs := its) (n := 0) (b := b) SrtO.swo_int hoL hline (fun h2 => ?_) fun out h1 h2 => ⟨rfl, ?_⟩
    · exact SrtO.ints_sortable hi h2
    · obtain ⟨ns', k1, k2, k3⟩ := SrtR.ints_outR hi h1 h2
      obtain ⟨ep, he'⟩ := sortedHeap_at (vs := its) (out := if b = true then out.toArray.reverse else out.toArray) hoL
      refine ⟨.ref _, _, I'.laid (a := h'.objs.size) (o := .lst (ns'.map V.int)) (t' := tk) (fun c u e => ?_) (Nat.le_refl _) ⟨?_, _, ep, vals_of_ints k1, by rw [Array.toArray_toList]; exact he'⟩, rfl, q ns' _ k2 k3 (I'.hok.fresh (Nat.le_refl _))⟩
      · have lc : c < h'.objs.size := Heap.lt_size e
        rw [show ({ s with heap := h'.push (seqObj "list" its.toArray 0), toks := tk } : Shared).heap = h'.push (seqObj "list" its.toArray 0) from rfl, sortedHeap_old (Nat.ne_of_lt lc) (by rw [size_push']; exact Nat.lt_succ_of_lt lc)]
        exact Heap.get?_push_of_some _ e
      · rw [List.length_map, k2.length_eq, ← hl]
        exact hline
end
end FR
namespace FR
open PySem PySem.Spec PyProof.Rows L2
section
variable {prog : Program} {w : World} {K : Type} [DecidableEq K] {knd : HeapKind prog w K} {A : Around} {E : Value → Shared → Prop} {s : Shared}
/-- dict(d), d a dict whose keys are objects that hash apart -/
theorem dict_copyH {o : Addr} {more : List (K × Addr × Value)} {Q : Value → Shared → Prop} (hu : ∀ A', A' = A ∨ A' = A.in1 ∨ A' = A.in1.in1 ∨ A' = A.in1.in1.in1 → knd.room A') (hoS : (o == sysModules) = false) (ho : s.heap.DictOfH knd o more) (hty : ∀ x ∈ more, s.TypeIs (.ref x.2.1) "tuple") (hap : (more.map fun x => knd.hash x.1).Nodup) (hsz : more.length ≤ sizeLine)
    (hst : ∀ h', (∀ b q, s.heap.get? b = some q → h'.get? b = some q) → ∀ x ∈ more, knd.is h' x.1 x.2.1)
    (h : ∀ h', h'.DictOfH knd s.heap.objs.size more → (∀ b q, s.heap.get? b = some q → h'.get? b = some q) → Q (.ref s.heap.objs.size) { s with heap := h' }) :
    wpAny (model prog w) A (call (.type "dict") [.ref o]) Q E s := by
  refine callType_codes (Q₁ := fun obj s₁ => obj = .ref s.heap.objs.size ∧ s₁ = { s with heap := s.heap.push { cls := .type "dict", data := .dict #[] } }) F.kt_called_dict (F.kt_typeCall_dict_1 _) F.entry_dict_init (kt_code_dict_new _ ⟨rfl, rfl⟩) ?_
  intro obj s1 hh
  obtain ⟨e1, e2⟩ := hh
  subst e1 e2
  have hnew : (s.heap.push { cls := .type "dict", data := .dict #[] }).DictOfH knd s.heap.objs.size [] := Heap.DictOfH.new s.heap
  have push : ∀ b q, s.heap.get? b = some q → (s.heap.push { cls := .type "dict", data := .dict #[] }).get? b = some q := fun b q e => Heap.get?_push_of_some _ e
  obtain ⟨ob, es, ep, g1, g2, g3, g4, g5, g6⟩ := id ho
  have ho' : (s.heap.push { cls := .type "dict", data := .dict #[] }).DictOfH knd o more := ⟨ob, es, ep, push _ _ g1, g2, g3, g4, hst _ push, g6⟩
  have hdo : s.heap.objs.size ≠ o := fun e => absurd (Heap.lt_size g1) (by rw [e]; exact Nat.lt_irrefl _)
  refine ⟨hnew.typeIs, F.args_dict_init_2 _ _, ?_⟩
  unfold Builtin.«dict.__init__»
  refine wpAny_bind ?_
  unfold Builtin.Dict.selfAndRest
  refine wpAny_bind (wpAny_notOrdered_dict hnew.typeIs ?_)
  show wpAny _ _ (pure (s.heap.objs.size, [Value.ref o])) _ _ _
  refine wpAny_pure ?_
  show wpAny _ _ (Builtin.Dict.updateFrom "dict.__init__" s.heap.objs.size (.ref o) [] .none) _ _ _
  unfold Builtin.Dict.updateFrom
  refine wpAny_bind (wpAny_typeOf ho'.typeIs ?_)
  rw [if_neg (by decide)]
  refine wpAny_bind ?_
  unfold Builtin.Dict.merge
  refine wpAny_bind ?_
  unfold Builtin.Dict.readDirectly
  refine wpAny_bind (wpAny_isInstance ho'.typeIs isSubtype_dict_dict ?_)
  simp only [Bool.not_true, Bool.false_eq_true, if_false]
  refine wpAny_bind (wpAny_specialOf ho'.typeIs F.slot_dict_iter.lookup (wpAny_pure ?_))
  simp only [beq_self_eq_true, if_true]
  refine wpAny_bind (wpAny_pure ?_)
  refine wpAny_mergeDict_heap (knd := knd) (hu _ (by simp)) hdo hoS hnew ho' (.inr ⟨fun x m => ?_, hap⟩) (fun h' hd' _ hs' => ?_) (by simpa using hsz)
  · obtain ⟨oo, e, c⟩ := hty x m
    exact ⟨oo, push _ _ e, c⟩
  · show wpAny _ _ (Builtin.Dict.addKeywords s.heap.objs.size [] >>= _) _ _ _
    rw [storedAllH_nil_of_nodup more g6] at hd'
    exact wpAny_bind (wpAny_pure (wpAny_pure ⟨rfl, h h' hd' fun b q e => (hs'.2 b (Nat.ne_of_lt (Heap.lt_size e))).trans (push _ _ e)⟩))
end
section
variable {X : Cx}
/-- the hashes of the keys are apart -/
def Apart (ks : List (List Key)) : Prop := ∀ (prog : Program) (w : World), (ks.map (tupleKind (mixKind prog w)).hash).Nodup
/-- dict(d) of a dict with tuple keys -/
def rDictT : List V → Hp → VK → Prop := fun xs H Q => ∃ (d : Addr) (kvs : List (List Key × V)), xs = [.ref d] ∧ Rd H d (.dT kvs) ∧ Apart (kvs.map (·.1)) ∧ ∀ p, H p = none → Q (.ref p) (upd H p (.dT kvs))
theorem call_dictT (hr : Room 3 X.A) : CallR X (.type "dict") rDictT := by
  intro pins s σ H xs us Q I r h
  obtain ⟨d, kvs, e1, hd, hap, q⟩ := h
  subst e1
  rw [Vals.ref1 r]
  obtain ⟨z, hs, xs, pr, dd⟩ := dt_rd I.hok hd
  have hk : ∀ x ∈ xs, ∃ ks : List Key, H x.2.1 = some (.tup (ks.map kV)) ∧ ks = x.1 := by
    intro x m
    have all : ∀ {l : List (List Key × V)} {n : List (List Key × Addr × Value)}, KT H l n → ∀ x ∈ n, ∃ ks : List Key, H x.2.1 = some (.tup (ks.map kV)) ∧ ks = x.1 := by
      intro l n t
      induction t with
      | nil => intro x m; cases m
      | cons a t ih =>
        intro x m
        rcases List.mem_cons.mp m with e | m
        · subst e
          exact ⟨_, a.2.1, a.1⟩
        · exact ih x m
    exact all pr x m
  have hkeys : xs.map (·.1) = kvs.map (·.1) := by
    have all : ∀ {l : List (List Key × V)} {n : List (List Key × Addr × Value)}, KT H l n → n.map (·.1) = l.map (·.1) := by
      intro l n t
      induction t with
      | nil => rfl
      | cons a t ih => rw [List.map_cons, List.map_cons, ih, a.1]
    exact all pr
  have hl : xs.length = kvs.length := by
    have e := congrArg List.length hkeys
    rw [List.length_map, List.length_map] at e
    exact e
  refine dict_copyH (knd := tupleKind (mixKind X.prog X.w)) (fun A' hA => ?_) hs dd (fun x m => ?_) ?_ (by rw [hl]; exact z) (fun h' kp x m => ?_) fun h' dd' kp => ?_
  · rcases hA with e | e | e | e
    · subst e; exact hr.units0
    · subst e; exact hr.in1.units0
    · subst e; exact hr.in1.in1.units0
    · subst e; exact hr.in1.in1.in1.units0
  · obtain ⟨ks, hx, _⟩ := hk x m
    obtain ⟨_, _, _, o, e, c, _⟩ := (show ObjOk X.prog X.w H s.heap x.2.1 (.tup (ks.map kV)) from I.hok _ _ hx)
    exact ⟨o, e, c⟩
  · have a := hap X.prog X.w
    rw [← hkeys, List.map_map] at a
    exact a
  · obtain ⟨ks, hx, e⟩ := hk x m
    rw [← e]
    exact key_of (I.hok.kept kp) hx
  · obtain ⟨o, es, ep, g1, g2, g3, g4, g5, g6⟩ := dd'
    refine ⟨.ref _, _, I.laid (a := s.heap.objs.size) (o := .dT kvs) (t' := s.toks) kp (Nat.le_refl _) ⟨z, ?_, xs, ?_, o, es, ep, g1, g2, g3, g4, g6⟩, rfl, q _ (I.hok.fresh (Nat.le_refl _))⟩
    · exact beq_eq_false_iff_ne.mpr (Ne.symm (Nat.ne_of_lt I.big))
    · refine Paired.mapP pr fun p y a => ⟨a.1, ?_, a.2.2⟩
      rw [upd_ne (ne_of_none a.2.1 (I.hok.fresh (Nat.le_refl _)))]
      exact a.2.1
end
end FR
namespace FR
open PySem PySem.Spec PyProof.Rows L2
theorem one_line : 1 ≤ sizeLine := by rw [sizeLine_eq]; decide
/-- a dict with one entry, whose key (a tuple that stands in the written part) is at b -/
def OneO (P : Program) (w : World) (d b : Addr) (ks : List Key) (n : Int) : HO := .ext fun h => (d == sysModules) = false ∧ ∃ (o : Obj) (es : Array DictEntry) (ep : Nat) (t : Tok), h.get? d = some o ∧ o.ExactDict ∧ o.data = .dict es ep ∧ es.toList = [(ks, b, Value.int n t)].map (entryOfKey (tupleKind (mixKind P w)))
section
variable {X : Cx} {pins : List (Addr × Obj)} {σ : L2.St} {H : Hp} {s : Shared} {d b : Addr} {ks : List Key} {n : Int}
theorem tup_key (I : Inv X pins σ H s) (h : SqT X.K H b (ks.map kV)) : (tupleKind (mixKind X.prog X.w)).is s.heap ks b := by
  obtain ⟨its, r, ⟨o, e, c, m, dt⟩, _⟩ := I.tuple h
  exact ⟨o, its.toArray, m, e, c, dt, by simpa using items_are r⟩
theorem one_get (I : Inv X pins σ H s) (h : H d = some (OneO X.prog X.w d b ks n)) (hb : SqT X.K H b (ks.map kV)) : (d == sysModules) = false ∧ ∃ t, s.heap.DictOfH (tupleKind (mixKind X.prog X.w)) d [(ks, b, Value.int n t)] := by
  obtain ⟨⟨lo, o, es, ep, t, g1, g2, g3, g4⟩, _⟩ := I.hok d _ h
  refine ⟨lo, t, o, es, ep, g1, g2, g3, g4, fun x m => ?_, by simp⟩
  have e : x = (ks, b, Value.int n t) := by simpa using m
  rw [e]
  exact tup_key I hb
/-- what follows the only pair of a display -/
def Dsp1 (X : Cx) (Q : VK) (p : Addr) : List (V × V) → Hp → Prop
  | [(x, y)], H2 => H2 p = some (.dT []) ∧ ∃ b ks, x = .ref b ∧ ((H2 b = some (.tup (ks.map kV)) ∧ Q (.ref p) (upd H2 p (.dT [(ks, y)]))) ∨ (∃ n, y = .int n ∧ SqT X.K H2 b (ks.map kV) ∧ Q (.ref p) (upd H2 p (OneO X.prog X.w p b ks n))))
  | _, _ => False
/-- {k: v}, k a tuple of whole numbers and texts -/
def tDisp1 (X : Cx) (tk tv : TE) : TE := fun σ H Q => ∀ p, H p = none → tk σ (upd H p (.dT [])) fun x H1 => tv σ H1 fun y H2 => Dsp1 X Q p [(x, y)] H2
theorem pe_disp1 {k v : Expr} {pos : Pos} {tk tv : TE} (hu : X.A.units < cLine) (hk : PE X k tk) (hv : PE X v tv) : PE X (.Dict [some k] [v] pos) (tDisp1 X tk tv) := by
  refine ⟨fun pins s σ H Q I q => ?_⟩
  have hn := I.hok.fresh (Nat.le_refl s.heap.objs.size)
  have I1 := I.laid (a := s.heap.objs.size) (o := .dT []) (h' := s.heap.push { cls := .type "dict", data := .dict #[] }) (t' := s.toks) (fun _ _ q => Heap.get?_push_of_some _ q) (Nat.le_refl _) (dt_empty s.heap I.big)
  have hrun := (pps_cons (pos := pos) hk hv pps_nil).run pins _ σ _ (Dsp1 X Q s.heap.objs.size) I1 (q _ hn)
  rw [arm_eval_Dict, zip_pairTrees [some k] [v] X.env pos rfl rfl, dictDisplay_pairs (pairTrees [some k] [v] X.env pos) (by exact List.cons_ne_nil _ _) (by show 1 < 17; decide)]
  refine wpAny_bind (wpAny_standAt (wpAny_bind (wpAny_subDictH (knd := tupleKind (mixKind X.prog X.w)) (Q := fun d s' => wpAny (model X.prog X.w) X.A (pure (Value.ref d)) (EP X pins σ Q) X.xe s') hu (by show 1 ≤ 15; decide) (thn hrun fun ws s2 z => ?_))))
  obtain ⟨ps, H2, I2, rel, z⟩ := z
  match ps, z with
  | [(x, y)], ⟨e2, b, ks, ex, z⟩ =>
    subst ex
    cases rel with
    | @cons _ uw _ _ h t =>
      cases t
      obtain ⟨u1, u2⟩ := uw
      obtain ⟨h1, h2⟩ := h
      simp only at h1 h2
      obtain rfl : u1 = Value.ref b := h1
      obtain ⟨zz, lo, xs, kt, dd⟩ := dt_of I2.hok e2
      cases kt
      have hkey : (tupleKind (mixKind X.prog X.w)).is s2.heap ks b := by
        rcases z with ⟨hb, _⟩ | ⟨n, _, hb, _⟩
        · exact key_of I2.hok hb
        · exact tup_key I2 hb
      refine ⟨[(ks, b, u2)], ⟨rfl, rfl, hkey, trivial⟩, dd, fun h' tk dd' sb => ?_⟩
      have dd2 : h'.DictOfH (tupleKind (mixKind X.prog X.w)) s.heap.objs.size [(ks, b, u2)] := dd'
      obtain ⟨o, es, ep, g1, g2, g3, g4, g5, g6⟩ := dd2
      refine wpAny_pure ?_
      rcases z with ⟨hb, qq⟩ | ⟨n, ey, hb, qq⟩
      · refine ⟨.ref _, _, I2.write (x := s.heap.objs.size) (e := s.heap.objs.size) (o := .dT [(ks, y)]) (t' := tk) (by rw [e2]; trivial) (.inl rfl) (fun c u hc hu => (sb.2 c hc).trans hu) ⟨o, g1⟩ ⟨one_line, lo, [(ks, b, u2)], .cons ⟨rfl, ?_, h2⟩ .nil, o, es, ep, g1, g2, g3, g4, g6⟩, rfl, qq⟩
        rw [upd_ne (ne_of hb e2 (by intro z; cases z))]
        exact hb
      · subst ey
        obtain ⟨t, et⟩ := h2
        subst et
        refine ⟨.ref _, _, I2.write (x := s.heap.objs.size) (e := s.heap.objs.size) (o := OneO X.prog X.w s.heap.objs.size b ks n) (t' := tk) (by rw [e2]; trivial) (.inl rfl) (fun c u hc hu => (sb.2 c hc).trans hu) ⟨o, g1⟩ ⟨⟨lo, o, es, ep, t, g1, g2, g3, g4⟩, ⟨o, g1⟩, ?_⟩, rfl, qq⟩
        intro h1 h2 hh hk
        obtain ⟨a1, o1, es1, ep1, t1, b1, b2, b3, b4⟩ := hh
        exact ⟨a1, o1, es1, ep1, t1, hk _ b1, b2, b3, b4⟩
/-- sorted(d): of a dict of the kind, or of the one that has one entry -/
theorem cr_sortedC (hc : X.calm = true) (hr : Room 2 X.A) : CallR X (.builtin "sorted") (fun vs H Q => rSortD false vs H Q ∨ ∃ d b ks n, vs = [.ref d] ∧ H d = some (OneO X.prog X.w d b ks n) ∧ SqT X.K H b (ks.map kV) ∧ ∀ p, H p = none → Q (.ref p) (upd H p (.lst [.ref b]))) := by
  intro pins s σ H xs us Q I r h
  rcases h with h | ⟨d, b, ks, n, ed, hd, hb, q⟩
  · exact cr_sortedD hc hr pins s σ H xs us Q I r h
  · subst ed
    rw [Vals.ref1 r]
    obtain ⟨lo, t, o, es, ep, g1, g2, g3, g4, g5, g6⟩ := one_get I hd hb
    have l1 : es.size = 1 := size_of_entries g4
    refine sorted_col (vs := [Value.ref b]) .none one_line (fun Q' k => ?_) fun h' tk kp => ?_
    · refine PySem.W.kdu_collect (A := X.A.in1) (kdl_raw lo g2 g3) (I.ok.hd hc) g1 (by rw [l1, sizeLine_eq]; decide) fun h' tk acc kp it => ?_
      have ea : acc.toList = [Value.ref b] := by
        have hlen : acc.toList.length = 1 := by rw [Array.length_toList, it.1, l1]
        match hac : acc.toList, hlen with
        | [v], _ =>
          obtain ⟨en, hen, hv⟩ := it.2 0 v (by rw [← Array.getElem?_toList, hac]; rfl)
          have qe := entry_at g4 0
          rw [hen] at qe
          have e2 : en = entryOfKey (tupleKind (mixKind X.prog X.w)) (ks, b, Value.int n t) := Option.some.inj qe
          rw [hv, e2]
          rfl
      rw [ea]
      exact k h' tk kp
    · have hoL : (h'.push (seqObj "list" [Value.ref b].toArray 0)).get? h'.objs.size = some (seqObj "list" [Value.ref b].toArray 0) := Heap.get?_push_size _ rfl
      have I' : Inv X pins σ H { s with heap := h', toks := tk } := I.kept kp
      refine SrtR.list_sort_ordR (s := { s with heap := h'.push (seqObj "list" [Value.ref b].toArray 0), toks := tk }) (a := h'.objs.size) (vs := [Value.ref b]) (n := 0) (b := false) (ltv := fun _ _ => false) ⟨fun _ _ _ => rfl, fun _ _ _ _ h => h⟩ hoL one_line (fun h2 => absurd h2 (by show ¬ 2 ≤ 1; decide)) fun out h2 h3 => ⟨rfl, ?_⟩
      have e : out = [Value.ref b] := List.perm_singleton.mp h3.perm
      subst e
      obtain ⟨ep', he'⟩ := sortedHeap_at (vs := [Value.ref b]) (out := [Value.ref b].toArray) hoL
      refine ⟨.ref _, _, I'.laid (a := h'.objs.size) (o := .lst [.ref b]) (t' := tk) (fun c u e => ?_) (Nat.le_refl _) ⟨one_line, [Value.ref b], ep', .cons rfl .nil, he'⟩, rfl, q _ (I'.hok.fresh (Nat.le_refl _))⟩
      have lc : c < h'.objs.size := Heap.lt_size e
      exact (sortedHeap_old (h := h'.push (seqObj "list" [Value.ref b].toArray 0)) (vs := [Value.ref b]) (out := [Value.ref b].toArray) (Nat.ne_of_lt lc) (by rw [size_push']; exact Nat.lt_succ_of_lt lc)).trans (Heap.get?_push_of_some _ e)
/-- d[k], d.get(k, x) of the one or the other -/
def tDGetC (X : Cx) (td ty : TE) : TE := fun σ H Q => td σ H fun x H1 => ty σ H1 fun y H2 => ∃ a v, x = .ref a ∧ (DGet H2 a y (some v) ∨ ∃ b ks n, y = .ref b ∧ v = .int n ∧ H2 a = some (OneO X.prog X.w a b ks n) ∧ SqT X.K H2 b (ks.map kV)) ∧ Q v H2
theorem pe_dgetC {o i : Expr} {pos : Pos} {td ty : TE} (hu : X.A.units + 1 < cLine) (ho : PE X o td) (hi : PE X i ty) (hs : NoSl i) : PE X (.Subscript o i pos) (tDGetC X td ty) := by
  refine ⟨fun pins s σ H Q I h => ?_⟩
  refine subD_of PySem.F.slot_dict_getitem.lookup hs (thn (ho.run pins s σ H _ I h) fun u s1 z1 => ?_)
  obtain ⟨x, H1, I1, rx, q1⟩ := z1
  refine thn (hi.run pins s1 σ H1 _ I1 q1) fun iv s2 z2 => ?_
  obtain ⟨y, H2, I2, ry, a, v, ex, g, q2⟩ := z2
  subst ex
  obtain rfl : u = Value.ref a := rx
  rcases g with g | ⟨b, ks, n, ey, ev, ha, hb⟩
  · exact ⟨dict_typeIs I2 g, d_getItem hu I2 g ry fun w' s3 I3 rw' => ⟨v, H2, I3, rw', q2⟩⟩
  · subst ey ev
    obtain rfl : iv = Value.ref b := ry
    obtain ⟨lo, t, dd⟩ := one_get I2 ha hb
    have g5 := tup_key I2 hb
    refine ⟨dd.typeIs, wpAny_getItem_heap (p := (b, Value.int n t)) (tupleKind_room_in1 hu) g5 dd (by simp [atKey]) ?_⟩
    exact ⟨.int n, H2, I2.tok _, ⟨t, rfl⟩, q2⟩
def tDGet2C (X : Cx) (td ty tx : TE) : TE := fun σ H Q => td σ H fun x H1 => ∃ a, x = .ref a ∧ (IsD H1 a ∨ ∃ b ks n, H1 a = some (OneO X.prog X.w a b ks n) ∧ SqT X.K H1 b (ks.map kV)) ∧ ty σ H1 fun y H2 => tx σ H2 fun z H3 =>
  (∃ o, DGet H3 a y o ∧ Q (o.getD z) H3) ∨ ∃ b c ks js n, y = .ref c ∧ H3 a = some (OneO X.prog X.w a b ks n) ∧ SqT X.K H3 b (ks.map kV) ∧ H3 c = some (.tup (js.map kV)) ∧ Q (if ks = js then .int n else z) H3
theorem pe_dget2C {o e f : Expr} {apos cpos : Pos} {td ty tx : TE} (hu : X.A.units + 1 < cLine) (ho : PE X o td) (he : PE X e ty) (hf : PE X f tx) (m : M2 X o "get" apos e f cpos) : PE X (.Call (.Attribute o "get" apos) [e, f] [] cpos) (tDGet2C X td ty tx) := by
  refine ⟨fun pins s σ H Q I h => ?_⟩
  refine wpAny_Call_method m.base m.few m.line PySem.F.plainAttrs_dict PySem.F.slot_dict_get PySem.F.type_dict_get (thn (ho.run pins s σ H _ I h) fun u s1 z1 => ?_)
  obtain ⟨x, H1, I1, rx, a, ex, d, q1⟩ := z1
  subst ex
  obtain rfl : u = Value.ref a := rx
  have tt : s1.TypeIs (.ref a) "dict" ∧ (∀ b, Value.ref a = .ref b → ∃ ob, s1.heap.get? b = some ob ∧ ob.dict = none) := by
    rcases d with d | ⟨b, ks, n, ha, hb⟩
    · obtain ⟨t1, t2, _⟩ := isD_at I1 d
      exact ⟨t1, t2⟩
    · obtain ⟨lo, t, dd⟩ := one_get I1 ha hb
      refine ⟨dd.typeIs, fun c q => ?_⟩
      cases q
      obtain ⟨ob, _, _, g1, g2, _⟩ := dd
      exact ⟨ob, g1, g2.2.1⟩
  refine ⟨tt.1, tt.2, ?_⟩
  rw [m.trees]
  refine Calls.callWith_builtin rfl (Calls.evalArgs_plain (Calls.spliced_cons (thn (he.run pins s1 σ H1 _ I1 q1) fun iv s2 z2 => ?_)))
  obtain ⟨y, H2, I2, ry, q2⟩ := z2
  refine Calls.spliced_cons (thn (hf.run pins s2 σ H2 _ I2 q2) fun fv s3 z3 => ?_)
  obtain ⟨z, H3, I3, rz, q3⟩ := z3
  refine Calls.spliced_nil ?_
  rcases q3 with ⟨ov, g, q3⟩ | ⟨b, c, ks, js, n, ey, ha, hb, hc, q3⟩
  · exact d_get2 hu I3 g ry rz fun w' s4 I4 rw' => ⟨_, H3, I4, rw', q3⟩
  · subst ey
    obtain rfl : iv = Value.ref c := ry
    obtain ⟨lo, t, dd⟩ := one_get I3 ha hb
    refine call_meetsIn PySem.F.slot_dict_get dd.typeIs PySem.F.entry_dict_get (PySem.F.args_dict_get_3 _ _ _) (meetsH_dict_get_default (tupleKind (mixKind X.prog X.w)) a c lo fv) ⟨tupleKind_room_in1 hu, js, _, key_of I3.hok hc, dd, ?_⟩
    refine ⟨_, H3, I3.tok _, ?_, q3⟩
    by_cases e : ks = js
    · rw [if_pos e]
      have ee : ((atKey [(ks, b, Value.int n t)] js).map (·.2)).getD fv = Value.int n t := by simp [atKey, e]
      rw [ee]
      exact ⟨t, rfl⟩
    · rw [if_neg e]
      have ee : ((atKey [(ks, b, Value.int n t)] js).map (·.2)).getD fv = fv := by simp [atKey, e]
      rw [ee]
      exact rz
end
end FR
namespace FR
open PySem PySem.Spec PyProof.Rows L2
section
variable {prog : Program} {w : World} {K : Type} [DecidableEq K] {knd : HeapKind prog w K} {A : Around} {E : Value → Shared → Prop} {s : Shared}
/-- one entry of the first dict against the second -/
def entB (xb : List (K × Addr × Value)) (e : K × Addr × Value → Addr × Value → Bool) (x : K × Addr × Value) : Bool := match atKey xb x.1 with
  | some p => e x p
  | none => false
theorem same_H {nm : String} {a b : Addr} {xa xb : List (K × Addr × Value)} {e : K × Addr × Value → Addr × Value → Bool} {Q : Bool → Shared → Prop} (hu : knd.room A) (na : (a == sysModules) = false) (nb : (b == sysModules) = false) (da : s.heap.DictOfH knd a xa) (db : s.heap.DictOfH knd b xb)
    (he : ∀ x ∈ xa, ∀ p, atKey xb x.1 = some p → SeqAt.EqAt A s x.2.2 p.2 (e x p)) (h : Q (xa.length == xb.length && xa.all (entB xb e)) s) : wpAny (model prog w) A (Builtin.Dict.samePairs nm a b) Q E s := by
  obtain ⟨oa, ea, ga, a1, _, a3, a4, a5, _⟩ := da
  obtain ⟨ob, eb, gb, b1, _, b3, b4, b5, b6⟩ := db
  have la : ea.size = xa.length := size_of_entries a4
  have lb : eb.size = xb.length := size_of_entries b4
  unfold Builtin.Dict.samePairs Builtin.Dict.showsAll
  rw [if_neg (by rw [na]; exact Bool.false_ne_true), if_neg (by rw [nb]; exact Bool.false_ne_true)]
  refine wpAny_bind (wpAny_pure (wpAny_bind (wpAny_pure (wpAny_bind (wpAny_dictEntries a1 a3 ?_)))))
  dsimp only
  refine wpAny_bind (wpAny_dictEntries b1 b3 ?_)
  by_cases hz : xa.length = xb.length
  · have hQ : Q (xa.all (entB xb e)) s := by simpa [hz] using h
    rw [if_neg (by rw [la, lb, hz]; simp)]
    refine wpAny_bind (wpAny_dictEpoch a1 a3 (wpAny_bind ?_))
    rw [Std.Legacy.Range.forIn_eq_forIn_range']
    simp only [Std.Legacy.Range.size, Nat.sub_zero, Nat.add_sub_cancel, Nat.div_one]
    refine wpAny_forIn_list _ (fun rest q s' => s' = s ∧ q = (none, ()) ∧ ∃ i, rest = List.range' i (xa.length - i) ∧ i ≤ xa.length ∧ Q ((xa.drop i).all (entB xb e)) s) _ ?_ ?_ _ _ ⟨rfl, rfl, 0, by rw [la]; simp, Nat.zero_le _, hQ⟩
    · intro y rest q s' hI
      obtain ⟨e1, e2, i, e3, e4, e5⟩ := hI
      subst e1 e2
      have hi : i < xa.length := by
        rcases Nat.lt_or_ge i xa.length with c | c
        · exact c
        · rw [Nat.sub_eq_zero_of_le c] at e3
          cases e3
      have sp : xa.length - i = (xa.length - (i + 1)) + 1 := by omega
      rw [sp, List.range'_succ] at e3
      injection e3 with e3 e6
      subst e3 e6
      have hx : xa[y]? = some xa[y] := List.getElem?_eq_getElem hi
      have hent : ea[y]? = some (entryOfKey knd xa[y]) := by rw [entry_at a4 y, hx]; rfl
      have hmem : xa[y] ∈ xa := List.getElem_mem hi
      have hdr : xa.drop y = xa[y] :: xa.drop (y + 1) := List.drop_eq_getElem_cons hi
      rw [hdr, List.all_cons] at e5
      refine wpAny_bind (wpAny_dictEntries a1 a3 ?_)
      rw [hent]
      refine wpAny_bind (wpAny_holding (wpAny_bind (wpAny_dictFind_heap (k := xa[y].1) hu (a5 _ hmem) b1 b3 b4 b5 b6 (fun hno => ?_) fun j p hj => ?_)))
      · have g : entB xb e xa[y] = false := by
          unfold entB
          rw [atKey_none_of_get hno]
        rw [g] at e5
        refine wpAny_pure ?_
        rw [if_pos (by decide)]
        exact wpAny_pure (wpAny_pure e5)
      · have g : atKey xb xa[y].1 = some p := atKey_of_get b6 hj
        have g2 : entB xb e xa[y] = e xa[y] p := by
          unfold entB
          rw [g]
        rw [g2] at e5
        refine wpAny_bind (wpAny_dictEntries b1 b3 ?_)
        have hb2 : eb[j]? = some (entryOfKey knd (xa[y].1, p)) := by rw [entry_at b4 j, hj]; rfl
        rw [hb2]
        refine wpAny_holding (he _ hmem p g prog w _ _ ?_)
        cases hc : e xa[y] p with
        | false =>
          rw [hc] at e5
          rw [if_pos (by decide)]
          exact wpAny_pure (wpAny_pure e5)
        | true =>
          rw [hc] at e5
          rw [if_neg (by decide)]
          refine wpAny_bind (wpAny_dictEpoch a1 a3 ?_)
          rw [if_neg (by simp)]
          exact wpAny_pure ⟨rfl, rfl, y + 1, rfl, hi, by simpa using e5⟩
    · intro q s' hI
      obtain ⟨e1, e2, i, e3, e4, e5⟩ := hI
      subst e1 e2
      have hin : i = xa.length := by
        rcases Nat.lt_or_ge i xa.length with c | c
        · have sp : xa.length - i = (xa.length - (i + 1)) + 1 := by omega
          rw [sp, List.range'_succ] at e3
          cases e3
        · exact Nat.le_antisymm e4 c
      subst hin
      refine wpAny_pure ?_
      have z := e5
      rw [List.drop_length] at z
      exact z
  · have hne : (xa.length == xb.length) = false := by simpa using hz
    rw [hne, Bool.false_and] at h
    rw [if_pos (by rw [la, lb]; simpa using hz)]
    exact wpAny_bind (wpAny_rule (wpAny_pure h))
theorem dict_eqH {a b : Addr} {xa xb : List (K × Addr × Value)} {e : K × Addr × Value → Addr × Value → Bool} {Q : Value → Shared → Prop} (hu : A.units < cLine) (hr : knd.room A.in1) (na : (a == sysModules) = false) (nb : (b == sysModules) = false) (da : s.heap.DictOfH knd a xa) (db : s.heap.DictOfH knd b xb)
    (he : ∀ x ∈ xa, ∀ p, atKey xb x.1 = some p → SeqAt.EqAt A.in1 s x.2.2 p.2 (e x p)) (h : Q (.bool (xa.length == xb.length && xa.all (entB xb e))) s) : wpAny (model prog w) A (compareOp .Eq (.ref a) (.ref b)) Q E s := by
  refine wpAny_richCompare_same_room (op := .Eq) da.typeIs db.typeIs PySem.F.slot_dict_eq (wpAny_call_entry PySem.F.slot_dict_eq da.typeIs PySem.F.entry_dict_eq ?_ (PySem.F.args_dict_eq_2 _ _)) hu
  show wpAny _ _ (Builtin.Dict.dictSlotArgs "__eq__" ⟨[.ref a, .ref b], []⟩ >>= _) _ _ s
  refine wpAny_bind ?_
  unfold Builtin.Dict.dictSlotArgs
  refine wpAny_bind (wpAny_notOrdered_dict da.typeIs ?_)
  show wpAny _ _ (pure (Value.ref a, Value.ref b)) _ _ s
  refine wpAny_pure (wpAny_bind (wpAny_isInstance (T := "dict") db.typeIs PySem.F.sub_dict_dict ?_))
  simp only [Bool.not_true, Bool.false_eq_true, if_false]
  refine wpAny_bind (wpAny_pure (wpAny_bind (wpAny_pure (wpAny_bind (same_H hr na nb da db he (wpAny_pure ⟨_, rfl, ?_, ?_⟩))))))
  · exact fun x => nomatch x
  · simpa using h
theorem dict_neH {a b : Addr} {xa xb : List (K × Addr × Value)} {e : K × Addr × Value → Addr × Value → Bool} {Q : Value → Shared → Prop} (hu : A.units < cLine) (hr : knd.room A.in1) (na : (a == sysModules) = false) (nb : (b == sysModules) = false) (da : s.heap.DictOfH knd a xa) (db : s.heap.DictOfH knd b xb)
    (he : ∀ x ∈ xa, ∀ p, atKey xb x.1 = some p → SeqAt.EqAt A.in1 s x.2.2 p.2 (e x p)) (h : Q (.bool (!(xa.length == xb.length && xa.all (entB xb e)))) s) : wpAny (model prog w) A (compareOp .NotEq (.ref a) (.ref b)) Q E s := by
  refine wpAny_richCompare_same_room (op := .NotEq) da.typeIs db.typeIs PySem.F.slot_dict_ne (wpAny_call_entry PySem.F.slot_dict_ne da.typeIs PySem.F.entry_dict_ne ?_ (PySem.F.args_dict_ne_2 _ _)) hu
  show wpAny _ _ (Builtin.Dict.dictSlotArgs "__ne__" ⟨[.ref a, .ref b], []⟩ >>= _) _ _ s
  refine wpAny_bind ?_
  unfold Builtin.Dict.dictSlotArgs
  refine wpAny_bind (wpAny_notOrdered_dict da.typeIs ?_)
  show wpAny _ _ (pure (Value.ref a, Value.ref b)) _ _ s
  refine wpAny_pure (wpAny_bind (wpAny_isInstance (T := "dict") db.typeIs PySem.F.sub_dict_dict ?_))
  simp only [Bool.not_true, Bool.false_eq_true, if_false]
  refine wpAny_bind (wpAny_pure (wpAny_bind (wpAny_pure (wpAny_bind (same_H hr na nb da db he (wpAny_pure ⟨_, rfl, ?_, ?_⟩))))))
  · exact fun x => nomatch x
  · simpa using h
end
end FR
namespace SF
abbrev Pt := List Int
abbrev Tb := List (Pt × Int)
inductive B where | m | e | h | p | s
  deriving DecidableEq
section
variable {κ α : Type} [DecidableEq κ]
def get (T : List (κ × α)) (k : κ) : Option α := (T.find? fun kv => decide (kv.1 = k)).map (·.2)
def put (T : List (κ × α)) (k : κ) (v : α) : List (κ × α) := if (T.any fun kv => decide (kv.1 = k)) = true then T.map (fun kv => if kv.1 = k then (kv.1, v) else kv) else T ++ [(k, v)]
def drop (T : List (κ × α)) (k : κ) : List (κ × α) := T.filter fun kv => !decide (kv.1 = k)
end
/-! ### the law's side. Multiples are told by their doubles: k stands for k / 2 -/
def hn (k : Int) : Int := if k % 2 = 0 then k / 2 else k
def hd (k : Int) : Int := if k % 2 = 0 then 1 else 2
def exps : Nat → Nat → List Pt
  | 0, d => if d = 0 then [[]] else []
  | n + 1, d => (List.range (d + 1)).flatMap fun i => (exps n i).map fun r => ((d - i : Nat) : Int) :: r
def parts : Nat → Nat → Nat → List Pt
  | _, 0, _ => [[]]
  | 0, _ + 1, _ => []
  | f + 1, n + 1, most => (List.range (min (n + 1) most)).flatMap fun i => (parts f (n + 1 - (min (n + 1) most - i)) (min (n + 1) most - i)).map fun r => ((min (n + 1) most - i : Nat) : Int) :: r
def partsOf (n : Nat) : List Pt := parts n n n
def plus (T : Tb) (e : Pt) (c : Int) : Tb := if (get T e).getD 0 + c = 0 then drop T e else put T e ((get T e).getD 0 + c)
def sumT (a b : Tb) (f : Int) : Tb := b.foldl (fun acc kv => plus acc kv.1 (f * (kv.2 / 2))) a
def timesT (a b : Tb) : Tb := a.foldl (fun acc x => b.foldl (fun acc y => plus acc (List.zipWith (· + ·) x.1 y.1) (x.2 * (y.2 / 2))) acc) []
def insD (x : Int) : Pt → Pt
  | [] => [x]
  | y :: r => if y ≤ x then x :: y :: r else y :: insD x r
def sortD : Pt → Pt
  | [] => []
  | x :: r => insD x (sortD r)
def pos (v : Pt) : Pt := v.filter fun x => decide (0 < x)
def desc (v : Pt) : Pt := sortD (pos v)
/-- the greatest of the items and 0 -/
def maxL : Pt → Int
  | [] => 0
  | x :: r => if maxL r < x then x else maxL r
def minL : Pt → Int
  | [] => 0
  | x :: r => if x < minL r then x else minL r
def cond (b : B) (top k : Int) : Bool := decide (b = .h) || (decide (b = .e) && decide (top < 2)) || (decide (b = .p) && decide (top = k))
def tableOf (L : Tb) : Tb := L.foldl (fun T kv => put T kv.1 kv.2) []
def factor (b : B) (n : Nat) (k : Int) : Tb := (exps n k.toNat).foldl (fun T v => if cond b (maxL v) k then put T v 2 else T) []
def basic (b : B) (n : Nat) (p : Pt) : Tb :=
  if b = .m then tableOf (((exps n p.sum.toNat).filter fun v => decide (sortD v = (sortD (p ++ List.replicate n 0)).take (max n p.length))).map fun v => (v, 2))
  else p.foldl (fun tot k => timesT tot (factor b n k)) [(List.replicate n 0, 2)]
def rangeI (lo hi : Int) : List Int := (List.range (hi - lo).toNat).map fun (i : Nat) => lo + (i : Int)
def innerGo : Pt → List Pt → List Pt
  | [], found => found
  | x :: r, found => innerGo r (found.flatMap fun hd => (rangeI (r.headD 0) (x + 1)).map fun i => hd ++ [i])
def inner (p : Pt) : List Pt := (innerGo p [[]]).map pos
def strip : Nat → Pt → Tb
  | 0, p => if p.length = 0 then [([], 2)] else []
  | n + 1, p => (inner p).foldl (fun acc less => (strip n less).foldl (fun acc kv => plus acc (kv.1 ++ [p.sum - less.sum]) kv.2) acc) []
def polyL (b : B) (n : Nat) (p : Pt) : Tb := if b = .s then strip n p else basic b n p
def expanded (b : B) (T : Tb) (n : Nat) : Tb := T.foldl (fun acc kv => sumT acc (polyL b n kv.1) kv.2) []
/-! ### the program's side -/
def choices (b : B) (k : Int) (rest : Pt) : List Pt :=
  (exps rest.length k.toNat).filterMap fun v => if decide (0 ≤ minL (List.zipWith (· - ·) rest v)) && cond b (maxL v) k then some (desc (List.zipWith (· - ·) rest v)) else none
def rows : Pt → Pt → Int → List Pt
  | [], _, t => if t = 0 then [[]] else []
  | _ :: _, [], _ => []
  | l :: ls, h :: hs, t => (List.range (h - l + 1).toNat).flatMap fun (i : Nat) => (rows ls hs (t - (h - (i : Int)))).map fun r => (h - (i : Int)) :: r
def withStrip (b : Pt) (k : Int) : List Pt := (rows (b ++ [0]) ((b.headD 0 + k) :: b) (b.sum + k)).map pos
def holds (a b : Pt) : Bool := if b.length > a.length then false else (List.zipWith (fun x y => decide (x > y)) b a).all (! ·)
/-- by the lists' own order -/
def tLe (b : Bool) (x y : Pt) : Bool := if b then decide (y ≤ x) else decide (x ≤ y)
def insT (b : Bool) (x : Pt) : List Pt → List Pt
  | [] => [x]
  | y :: r => if tLe b x y then x :: y :: r else y :: insT b x r
def sortT (b : Bool) : List Pt → List Pt
  | [] => []
  | x :: r => insT b x (sortT b r)
def bump (T : Tb) (e : Pt) (c : Int) : Tb := put T e ((get T e).getD 0 + c)
def stripStep (outer : Pt) (counts : Tb) (k : Int) : Tb := (sortT false (counts.map (·.1))).foldl (fun later b => (withStrip b k).foldl (fun later a => if holds outer a then bump later a ((get counts b).getD 0) else later) later) []
def countF (outer content : Pt) : Int := (get (content.foldl (stripStep outer) [([], 1)]) outer).getD 0
def wayStep (b : B) (ways : Tb) (k : Int) : Tb := ways.foldl (fun later rest => (choices b k rest.1).foldl (fun later left => bump later left rest.2) later) []
def coefIn (b : B) (p μ : Pt) : Int := if b = .m then (if p = μ then 1 else 0) else if b = .s then countF p μ else (get (p.foldl (wayStep b) [(μ, 1)]) []).getD 0
def addTable (L : Tb) : Tb := L.foldl (fun T kv => bump T kv.1 kv.2) []
def keepOf (T : Tb) (p : Pt) : Option (Pt × Int) := match get T p with
  | some c => if c = 0 then none else some (p, c)
  | none => none
def addedParts (L : Tb) : Tb := (List.range 9).flatMap fun d => (partsOf d).filterMap (keepOf (addTable L))
def meaning (b : B) (T : Tb) : Tb := if b = .m then addedParts T else addedParts (T.flatMap fun kv => (partsOf kv.1.sum.toNat).map fun μ => (μ, kv.2 * coefIn b kv.1 μ))
def addedTerms (L : Tb) : Tb := (sortT true ((addTable L).map (·.1))).filterMap (keepOf (addTable L))
def polyF (M : Tb) (n : Nat) : Tb := addedTerms (M.flatMap fun kv => ((exps n kv.1.sum.toNat).filter fun v => decide (desc v = kv.1)).map fun v => (v, kv.2))
def smallParts : List Pt := (List.range 5).flatMap partsOf
def uni : List Pt := (List.range 5).flatMap fun n => (List.range 5).flatMap fun d => exps n d
end SF
namespace FR
open PySem PySem.Spec PyProof.Rows L2 SF
/-! ### heaps -/
/-- all that was tracked is as it was -/
abbrev Ex (H H' : Hp) : Prop := ∀ a o, H a = some o → H' a = some o
/-- .. but at the places of S -/
abbrev ExS (S : List Addr) (H H' : Hp) : Prop := ∀ a o, a ∉ S → H a = some o → H' a = some o
/-- what never changes is as it was: tuples, instances -/
structure Imm (H H' : Hp) : Prop where
  tup : ∀ a xs, H a = some (.tup xs) → H' a = some (.tup xs)
  ins : ∀ a C dx fs, H a = some (.ins C dx fs) → H' a = some (.ins C dx fs)
section
variable {H H' H1 H2 : Hp} {p a d : Addr} {o x : HO} {S : List Addr}
theorem upd_new (hp : H p = none) (h : H a = some x) : upd H p o a = some x := by rw [upd_ne (ne_of_none h hp)]; exact h
theorem upd_lst {xs : List V} (hp : H p = some (.lst xs)) (h : H a = some x) (n : HO.lst xs ≠ x) : upd H p o a = some x := by rw [upd_ne (fun e => n (by rw [e, hp] at h; exact Option.some.inj h))]; exact h
theorem upd_oth {y : HO} (hp : H p = some y) (h : H a = some x) (n : y ≠ x) : upd H p o a = some x := by rw [upd_ne (fun e => n (by rw [e, hp] at h; exact Option.some.inj h))]; exact h
theorem Ex.rf : Ex H H := fun _ _ h => h
theorem Ex.tr (e : Ex H H1) (f : Ex H1 H2) : Ex H H2 := fun a o h => f a o (e a o h)
theorem Ex.nw (hp : H p = none) : Ex H (upd H p o) := fun _ _ h => upd_new hp h
/-- a place that H does not know may change -/
theorem Ex.mt (e : Ex H H') (hp : H p = none) : Ex H (upd H' p o) := fun a x h => by rw [upd_ne (ne_of_none h hp)]; exact e a x h
theorem Ex.fr (e : Ex H H') (h : H' p = none) : H p = none := by
  cases q : H p with
  | none => rfl
  | some u => rw [e p u q] at h; cases h
theorem ExS.of (e : Ex H H') : ExS S H H' := fun a o _ h => e a o h
theorem ExS.tr (e : ExS S H H1) (f : Ex H1 H2) : ExS S H H2 := fun a o m h => f a o (e a o m h)
theorem ExS.mt (e : ExS S H H') (hp : H p = none) : ExS S H (upd H' p o) := fun a x m h => by rw [upd_ne (ne_of_none h hp)]; exact e a x m h
theorem ExS.lock (e : ExS S H H') : ExS (d :: S) H (upd H' d o) := fun a x m h => by
  rw [upd_ne (fun z => m (by rw [z]; exact List.mem_cons_self ..))]
  exact e a x (fun z => m (List.mem_cons_of_mem _ z)) h
theorem ExS.free (e : ExS (d :: S) H H') (hd : H d = some o) : ExS S H (upd H' d o) := fun a x m h => by
  by_cases z : a = d
  · subst z
    rw [hd] at h
    rw [upd_same]
    exact h
  · rw [upd_ne z]
    exact e a x (fun q => (List.mem_cons.mp q).elim z m) h
theorem ExS.ex (e : ExS [] H H') : Ex H H' := fun a o h => e a o (fun z => nomatch z) h
theorem Imm.rf : Imm H H := ⟨fun _ _ h => h, fun _ _ _ _ h => h⟩
theorem Imm.tr (e : Imm H H1) (f : Imm H1 H2) : Imm H H2 := ⟨fun a xs h => f.tup a xs (e.tup a xs h), fun a C dx fs h => f.ins a C dx fs (e.ins a C dx fs h)⟩
theorem Imm.of (e : Ex H H') : Imm H H' := ⟨fun _ _ h => e _ _ h, fun _ _ _ _ h => e _ _ h⟩
theorem Imm.nw (hp : H p = none) : Imm H (upd H p o) := .of (.nw hp)
theorem Imm.lst {xs : List V} (hp : H p = some (.lst xs)) : Imm H (upd H p o) := ⟨fun _ _ h => upd_oth hp h (by intro z; cases z), fun _ _ _ _ h => upd_oth hp h (by intro z; cases z)⟩
theorem Imm.dT {xs : List (List Key × V)} (hp : H p = some (.dT xs)) : Imm H (upd H p o) := ⟨fun _ _ h => upd_oth hp h (by intro z; cases z), fun _ _ _ _ h => upd_oth hp h (by intro z; cases z)⟩
theorem Imm.frz {ob : Obj} {xs : List (List Key × V)} (hp : H p = some (.frz ob (.dT xs))) : Imm H (upd H p o) := ⟨fun _ _ h => upd_oth hp h (by intro z; cases z), fun _ _ _ _ h => upd_oth hp h (by intro z; cases z)⟩
end
/-! ### data -/
/-- a kind of value that stands still -/
abbrev Rv (α : Type) := Hp → V → α → Prop
def Mo {α : Type} (R : Rv α) : Prop := ∀ {H H' : Hp}, Imm H H' → ∀ {v : V} {a : α}, R H v a → R H' v a
/-- a tuple of whole numbers -/
def RT : Rv Pt := fun H v ns => ∃ t, v = .ref t ∧ H t = some (.tup (ns.map V.int))
/-- the law's pair of a numerator and a denominator -/
def RP : Rv Int := fun H v k => ∃ t, v = .ref t ∧ H t = some (.tup [.int (hn k), .int (hd k)])
/-- a whole number -/
def RI : Rv Int := fun _ v k => v = .int k
theorem mo_RT : Mo RT := fun e => fun ⟨t, h1, h2⟩ => ⟨t, h1, e.tup _ _ h2⟩
theorem mo_RP : Mo RP := fun e => fun ⟨t, h1, h2⟩ => ⟨t, h1, e.tup _ _ h2⟩
theorem mo_RI : Mo RI := fun _ => fun h => h
/-- a list of values -/
abbrev All {α : Type} (R : Rv α) (H : Hp) (vs : List V) (xs : List α) : Prop := Paired (fun v x => R H v x) vs xs
theorem All.mo {α : Type} {R : Rv α} (m : Mo R) {H H' : Hp} (e : Imm H H') {vs : List V} {xs : List α} (h : All R H vs xs) : All R H' vs xs := Paired.mapP h fun _ _ r => m e r
theorem All.len {α : Type} {R : Rv α} {H : Hp} {vs : List V} {xs : List α} (h : All R H vs xs) : vs.length = xs.length := Paired.length h
theorem All.snoc {α : Type} {R : Rv α} {H : Hp} {v : V} {x : α} (r : R H v x) : ∀ {vs : List V} {xs : List α}, All R H vs xs → All R H (vs ++ [v]) (xs ++ [x])
  | _, _, .nil => .cons r .nil
  | _, _, .cons a t => .cons a (All.snoc r t)
theorem All.app {α : Type} {R : Rv α} {H : Hp} {ws : List V} {ys : List α} (r : All R H ws ys) : ∀ {vs : List V} {xs : List α}, All R H vs xs → All R H (vs ++ ws) (xs ++ ys)
  | _, _, .nil => r
  | _, _, .cons a t => .cons a (All.app r t)
theorem All.at {α : Type} {R : Rv α} {H : Hp} : ∀ {vs : List V} {xs : List α} {i : Nat} {v : V}, All R H vs xs → vs[i]? = some v → ∃ x, xs[i]? = some x ∧ R H v x
  | _, _, _, _, .nil, e => by simp at e
  | _, _, 0, _, .cons a t, e => by simp at e; subst e; exact ⟨_, rfl, a⟩
  | _, _, i + 1, _, .cons a t, e => by simpa using All.at t (by simpa using e)
theorem All.get {α : Type} {R : Rv α} {H : Hp} : ∀ {vs : List V} {xs : List α} {i : Nat} {x : α}, All R H vs xs → xs[i]? = some x → ∃ v, vs[i]? = some v ∧ R H v x
  | _, _, _, _, .nil, e => by simp at e
  | _, _, 0, _, .cons a t, e => by simp at e; subst e; exact ⟨_, rfl, a⟩
  | _, _, i + 1, _, .cons a t, e => by simpa using All.get t (by simpa using e)
theorem all_ints (H : Hp) : ∀ ns : List Int, All RI H (ns.map V.int) ns
  | [] => .nil
  | _ :: r => .cons rfl (all_ints H r)
/-! ### dicts whose keys are tuples of whole numbers -/
def KI (ns : Pt) : List Key := ns.map Sum.inl
theorem KI_inj {a b : Pt} (h : KI a = KI b) : a = b := by
  unfold KI at h
  induction a generalizing b with
  | nil => cases b with
    | nil => rfl
    | cons y b => cases h
  | cons x a ih => cases b with
    | nil => cases h
    | cons y b =>
      simp only [List.map_cons, List.cons.injEq, Sum.inl.injEq] at h
      rw [h.1, ih h.2]
theorem KI_kV (ns : Pt) : (KI ns).map kV = ns.map V.int := by
  unfold KI
  rw [List.map_map]
  rfl
/-- the entries tell the table -/
abbrev TabV {α : Type} (R : Rv α) (H : Hp) (kvs : List (List Key × V)) (T : List (Pt × α)) : Prop := Paired (fun (p : List Key × V) (q : Pt × α) => p.1 = KI q.1 ∧ R H p.2 q.2) kvs T
section
variable {α : Type} {R : Rv α} {H H' : Hp} {kvs : List (List Key × V)} {T : List (Pt × α)}
theorem TabV.mo (m : Mo R) (e : Imm H H') (h : TabV R H kvs T) : TabV R H' kvs T := Paired.mapP h fun _ _ r => ⟨r.1, m e r.2⟩
theorem TabV.len (h : TabV R H kvs T) : kvs.length = T.length := Paired.length h
theorem TabV.keys (h : TabV R H kvs T) : kvs.map (·.1) = (T.map (·.1)).map KI := by
  induction h with
  | nil => rfl
  | cons a t ih => rw [List.map_cons, List.map_cons, List.map_cons, ih, a.1]
theorem TabV.get (h : TabV R H kvs T) (k : Pt) : (valV kvs (KI k) = none ∧ SF.get T k = none) ∨ ∃ v x, valV kvs (KI k) = some v ∧ SF.get T k = some x ∧ R H v x := by
  induction h with
  | nil => exact .inl ⟨rfl, rfl⟩
  | @cons p q ps qs a t ih =>
    by_cases e : q.1 = k
    · have e1 : p.1 = KI k := by rw [a.1, e]
      exact .inr ⟨p.2, q.2, by simp [valV, e1], by simp [SF.get, e], a.2⟩
    · have e1 : ¬ p.1 = KI k := fun z => e (KI_inj (by rw [← a.1]; exact z))
      rcases ih with ⟨i1, i2⟩ | ⟨v, x, i1, i2, i3⟩
      · exact .inl ⟨by simpa [valV, e1] using i1, by simpa [SF.get, e] using i2⟩
      · exact .inr ⟨v, x, by simpa [valV, e1] using i1, by simpa [SF.get, e] using i2, i3⟩
theorem TabV.any (h : TabV R H kvs T) (k : Pt) : (kvs.any fun kv => decide (kv.1 = KI k)) = T.any fun kv => decide (kv.1 = k) := by
  induction h with
  | nil => rfl
  | @cons p q ps qs a t ih =>
    rw [List.any_cons, List.any_cons, ih]
    have e : decide (p.1 = KI k) = decide (q.1 = k) := by
      by_cases e : q.1 = k
      · rw [decide_eq_true e, decide_eq_true (by rw [a.1, e])]
      · rw [decide_eq_false e, decide_eq_false (fun z => e (KI_inj (by rw [← a.1]; exact z)))]
    rw [e]
theorem TabV.put (h : TabV R H kvs T) {k : Pt} {v : V} {x : α} (r : R H v x) : TabV R H (putK kvs (KI k) v) (SF.put T k x) := by
  unfold putK SF.put
  rw [h.any k]
  split
  · rename_i hc
    clear hc
    induction h with
    | nil => exact .nil
    | @cons p q ps qs a t ih =>
      refine .cons ?_ ih
      dsimp only
      by_cases e : q.1 = k
      · rw [if_pos e, if_pos (by rw [a.1, e])]
        exact ⟨a.1, r⟩
      · rw [if_neg e, if_neg (fun z => e (KI_inj (by rw [← a.1]; exact z)))]
        exact a
  · rename_i hc
    clear hc
    induction h with
    | nil => exact .cons ⟨rfl, r⟩ .nil
    | cons a t ih => exact .cons a ih
theorem TabV.drop (h : TabV R H kvs T) {k : Pt} : TabV R H (dropK kvs (KI k)) (SF.drop T k) := by
  unfold dropK SF.drop
  induction h with
  | nil => exact .nil
  | @cons p q ps qs a t ih =>
    by_cases e : q.1 = k
    · have e1 : p.1 = KI k := by rw [a.1, e]
      simpa [List.filter_cons, e, e1] using ih
    · have e1 : ¬ p.1 = KI k := fun z => e (KI_inj (by rw [← a.1]; exact z))
      rw [List.filter_cons_of_pos (by simpa using e1), List.filter_cons_of_pos (by simpa using e)]
      exact .cons a ih
end
theorem len_put {κ α : Type} [DecidableEq κ] (T : List (κ × α)) (k : κ) (v : α) : (SF.put T k v).length ≤ T.length + 1 := by
  unfold SF.put
  split
  · rw [List.length_map]; omega
  · rw [List.length_append]; simp
theorem len_drop {κ α : Type} [DecidableEq κ] (T : List (κ × α)) (k : κ) : (SF.drop T k).length ≤ T.length := List.length_filter_le _ _
/-! ### == of two such dicts whose values are pairs -/
theorem half_inj {k j : Int} (h1 : hn k = hn j) (h2 : hd k = hd j) : k = j := by
  unfold hn at h1
  unfold hd at h2
  by_cases a : k % 2 = 0 <;> by_cases b : j % 2 = 0 <;> simp only [a, b, if_true, if_false] at h1 h2 <;> omega
def eqT (A C : Tb) : Bool := A.length == C.length && A.all fun q => match SF.get C q.1 with
  | some c => decide (q.2 = c)
  | none => false
def rEqT (neg : Bool) : R2 := fun x y H Q => ∃ (a b : Addr) (k1 k2 : List (List Key × V)) (A C : Tb), x = .ref a ∧ y = .ref b ∧ H a = some (.dT k1) ∧ H b = some (.dT k2) ∧ TabV RP H k1 A ∧ TabV RP H k2 C ∧ Q (.bl (if neg then !eqT A C else eqT A C)) H
section
variable {X : Cx} {pins : List (Addr × Obj)} {σ : L2.St} {H : Hp} {s : Shared}
theorem pair_reads (I : Inv X pins σ H s) {v : V} {k : Int} (h : RP H v k) {u : Value} (r : RelV v u) : ∃ as, Reads s.heap u (.tuple [.int (hn k), .int (hd k)]) as := by
  obtain ⟨t, e, ht⟩ := h
  subst e
  cases r
  obtain ⟨_, us, rv, o, g1, g2, n, g3⟩ := (show ObjOk X.prog X.w H s.heap t (.tup [.int (hn k), .int (hd k)]) from I.hok _ _ ht)
  have z := readsAll_ints (h := s.heap) (ns := [hn k, hd k]) rv
  exact ⟨[], Reads.tuple g1 g2 g3 (by simpa using z)⟩
theorem eqv_pair (a b c d : Int) : PyData.eqv (.tuple [.int a, .int b]) (.tuple [.int c, .int d]) = (decide (a = c) && decide (b = d)) := by
  simp [PyData.eqv, PyData.eqvAll, Bool.beq_eq_decide_eq]
theorem pair_eqAt (I : Inv X pins σ H s) (hu : X.A.in1.units + 64 < cLine) {v y : V} {k j : Int} (h1 : RP H v k) (h2 : RP H y j) {u w : Value} (r1 : RelV v u) (r2 : RelV y w) : SeqAt.EqAt X.A.in1 s u w (decide (k = j)) := by
  obtain ⟨as, q1⟩ := pair_reads I h1 r1
  obtain ⟨bs, q2⟩ := pair_reads I h2 r2
  have z := PySem.W.keq_at (A := X.A) q1 q2 rfl rfl hu
  rw [eqv_pair] at z
  have e : (decide (hn k = hn j) && decide (hd k = hd j)) = decide (k = j) := by
    by_cases c : k = j
    · subst c; simp
    · rw [decide_eq_false c]
      by_cases c1 : hn k = hn j
      · rw [decide_eq_true c1, decide_eq_false (fun c2 => c (half_inj c1 c2))]; rfl
      · rw [decide_eq_false c1]; rfl
  rw [e] at z
  exact z
/-- what the dict's own entries are -/
theorem kt_tab : ∀ {kvs : List (List Key × V)} {xs : List (List Key × Addr × Value)} {T : Tb}, KT H kvs xs → TabV RP H kvs T → Paired (fun (x : List Key × Addr × Value) (q : Pt × Int) => x.1 = KI q.1 ∧ ∃ v, RelV v x.2.2 ∧ RP H v q.2) xs T
  | _, _, _, .nil, .nil => .nil
  | _, _, _, .cons a t, .cons b u => .cons ⟨by rw [← a.1, b.1], _, a.2.2, b.2⟩ (kt_tab t u)
theorem atKey_tab : ∀ {xs : List (List Key × Addr × Value)} {T : Tb} (k : Pt), Paired (fun (x : List Key × Addr × Value) (q : Pt × Int) => x.1 = KI q.1 ∧ ∃ v, RelV v x.2.2 ∧ RP H v q.2) xs T →
    (atKey xs (KI k) = none ∧ SF.get T k = none) ∨ ∃ p c v, atKey xs (KI k) = some p ∧ SF.get T k = some c ∧ RelV v p.2 ∧ RP H v c
  | _, _, k, .nil => .inl ⟨rfl, rfl⟩
  | _, _, k, .cons (a := x) (b := q) a t => by
    by_cases e : q.1 = k
    · obtain ⟨v, r1, r2⟩ := a.2
      have e1 : x.1 = KI k := by rw [a.1, e]
      exact .inr ⟨x.2, q.2, v, by simp [atKey, e1], by simp [SF.get, e], r1, r2⟩
    · have e1 : ¬ x.1 = KI k := fun z => e (KI_inj (by rw [← a.1]; exact z))
      rcases atKey_tab k t with ⟨i1, i2⟩ | ⟨p, c, v, i1, i2, i3⟩
      · exact .inl ⟨by simpa [atKey, e1] using i1, by simpa [SF.get, e] using i2⟩
      · exact .inr ⟨p, c, v, by simpa [atKey, e1] using i1, by simpa [SF.get, e] using i2, i3⟩
def getKI (T : Tb) (ks : List Key) : Option Int := (T.find? fun q => decide (KI q.1 = ks)).map (·.2)
theorem getKI_eq (T : Tb) (k : Pt) : getKI T (KI k) = SF.get T k := by
  unfold getKI SF.get
  congr 1
  congr 1
  funext q
  by_cases e : q.1 = k
  · rw [decide_eq_true e, decide_eq_true (by rw [e])]
  · rw [decide_eq_false e, decide_eq_false (fun z => e (KI_inj z))]
theorem get_mem {α : Type} : ∀ {T : List (Pt × α)} {q : Pt × α}, (T.map (·.1)).Nodup → q ∈ T → SF.get T q.1 = some q.2
  | [], _, _, m => nomatch m
  | p :: T, q, n, m => by
    have n' : (p.1 :: T.map (·.1)).Nodup := n
    obtain ⟨n1, n2⟩ := List.nodup_cons.mp n'
    rcases List.mem_cons.mp m with e | m
    · subst e; simp [SF.get]
    · have ne : ¬ p.1 = q.1 := fun e => n1 (by rw [e]; exact List.mem_map.mpr ⟨q, m, rfl⟩)
      have ih := get_mem n2 m
      simpa [SF.get, ne] using ih
theorem paired_keys : ∀ {xs : List (List Key × Addr × Value)} {T : Tb}, Paired (fun (x : List Key × Addr × Value) (q : Pt × Int) => x.1 = KI q.1 ∧ ∃ v, RelV v x.2.2 ∧ RP H v q.2) xs T → xs.map (·.1) = (T.map (·.1)).map KI
  | _, _, .nil => rfl
  | _, _, .cons a t => by rw [List.map_cons, List.map_cons, List.map_cons, paired_keys t, a.1]
theorem nodup_KI : ∀ {l : List Pt}, (l.map KI).Nodup → l.Nodup
  | [], _ => List.nodup_nil
  | x :: l, h => by
    have h' : (KI x :: l.map KI).Nodup := h
    obtain ⟨h1, h2⟩ := List.nodup_cons.mp h'
    exact List.nodup_cons.mpr ⟨fun m => h1 (List.mem_map.mpr ⟨x, m, rfl⟩), nodup_KI h2⟩
/-- the answer, entry by entry -/
theorem ent_tab {xb : List (List Key × Addr × Value)} {C A : Tb} (hb : Paired (fun (x : List Key × Addr × Value) (q : Pt × Int) => x.1 = KI q.1 ∧ ∃ v, RelV v x.2.2 ∧ RP H v q.2) xb C) (I : Inv X pins σ H s) (hu : X.A.in1.units + 64 < cLine) (nA : (A.map (·.1)).Nodup) :
    ∀ {xa : List (List Key × Addr × Value)} {A' : Tb}, (∀ q ∈ A', q ∈ A) → Paired (fun (x : List Key × Addr × Value) (q : Pt × Int) => x.1 = KI q.1 ∧ ∃ v, RelV v x.2.2 ∧ RP H v q.2) xa A' →
    (∀ x ∈ xa, ∀ p, atKey xb x.1 = some p → SeqAt.EqAt X.A.in1 s x.2.2 p.2 (decide (getKI A x.1 = getKI C x.1))) ∧ xa.all (entB xb fun x _ => decide (getKI A x.1 = getKI C x.1)) = A'.all fun q => match SF.get C q.1 with
      | some c => decide (q.2 = c)
      | none => false
  | [], [], _, .nil => ⟨fun _ m => (nomatch m), rfl⟩
  | x :: _, q :: _, hs, .cons a t => by
    obtain ⟨i1, i2⟩ := ent_tab hb I hu nA (fun q m => hs q (List.mem_cons_of_mem _ m)) t
    obtain ⟨ek, v, r1, r2⟩ := a
    have gq : SF.get A q.1 = some q.2 := get_mem nA (hs q (List.mem_cons_self ..))
    have one : ∀ p, atKey xb x.1 = some p → ∃ c, SF.get C q.1 = some c ∧ SeqAt.EqAt X.A.in1 s x.2.2 p.2 (decide (q.2 = c)) := fun p hp => by
      rw [ek] at hp
      rcases atKey_tab q.1 hb with ⟨j1, _⟩ | ⟨p', c, y, j1, j2, j3, j4⟩
      · rw [j1] at hp; cases hp
      · rw [j1] at hp
        cases hp
        exact ⟨c, j2, pair_eqAt I hu r2 j4 r1 j3⟩
    have val : ∀ c, SF.get C q.1 = some c → decide (getKI A x.1 = getKI C x.1) = decide (q.2 = c) := fun c hc => by
      rw [ek, getKI_eq, getKI_eq, gq, hc]
      simp
    refine ⟨fun x' m p hp => ?_, ?_⟩
    · rcases List.mem_cons.mp m with e | m
      · subst e
        obtain ⟨c, h1, h2⟩ := one p hp
        rw [val c h1]
        exact h2
      · exact i1 x' m p hp
    · rw [List.all_cons, List.all_cons, i2]
      congr 1
      unfold entB
      cases hk : atKey xb x.1 with
      | none =>
        rw [ek] at hk
        rcases atKey_tab q.1 hb with ⟨j1, j2⟩ | ⟨p', c, y, j1, j2, j3, j4⟩
        · rw [j2]
        · rw [j1] at hk; cases hk
      | some p =>
        obtain ⟨c, h1, h2⟩ := one p hk
        rw [h1]
        exact val c h1
theorem eqT_run {neg : Bool} {op : CmpOp} (hop : (op = .Eq ∧ neg = false) ∨ (op = .NotEq ∧ neg = true)) (hr : Room 1 X.A) {x y : V} {v u : Value} {Q : VK} (I : Inv X pins σ H s) (rx : RelV x v) (ry : RelV y u) (h : rEqT neg x y H Q) : wpAny (model X.prog X.w) X.A (compareOp op v u) (EP X pins σ Q) X.xe s := by
  obtain ⟨a, b, k1, k2, A, C, e1, e2, ha, hb, ta, tb, q⟩ := h
  subst e1 e2
  cases rx
  cases ry
  obtain ⟨za, la, xa, ka, da⟩ := dt_of I.hok ha
  obtain ⟨zb, lb, xb, kb, db⟩ := dt_of I.hok hb
  have pa := kt_tab ka ta
  have pb := kt_tab kb tb
  have nA : (A.map (·.1)).Nodup := by
    obtain ⟨_, _, _, _, _, _, _, _, n⟩ := id da
    rw [paired_keys pa] at n
    exact nodup_KI n
  obtain ⟨f1, f2⟩ := ent_tab pb I hr.in1.units nA (fun q m => m) pa
  have l1 : xa.length = A.length := Paired.length pa
  have l2 : xb.length = C.length := Paired.length pb
  have ee : (xa.length == xb.length && xa.all (entB xb fun x _ => decide (getKI A x.1 = getKI C x.1))) = eqT A C := by rw [f2, l1, l2]; rfl
  rcases hop with ⟨e1, e2⟩ | ⟨e1, e2⟩
  · subst e1 e2
    refine dict_eqH (knd := tupleKind (mixKind X.prog X.w)) hr.units0 hr.in1.units0 la lb da db f1 ?_
    rw [ee]
    exact ⟨.bl _, H, I, rfl, q⟩
  · subst e1 e2
    refine dict_neH (knd := tupleKind (mixKind X.prog X.w)) hr.units0 hr.in1.units0 la lb da db f1 ?_
    rw [ee]
    exact ⟨.bl _, H, I, rfl, q⟩
theorem op_eqT (hr : Room 1 X.A) : OpR X (compareOp .Eq) (rEqT false) := fun pins s σ H x y v u Q I rx ry h => eqT_run (.inl ⟨rfl, rfl⟩) hr I rx ry h
theorem op_neT (hr : Room 1 X.A) : OpR X (compareOp .NotEq) (rEqT true) := fun pins s σ H x y v u Q I rx ry h => eqT_run (.inr ⟨rfl, rfl⟩) hr I rx ry h
end
theorem len_plus (T : Tb) (e : Pt) (c : Int) : (plus T e c).length ≤ T.length + 1 := by
  unfold plus
  split
  · exact Nat.le_succ_of_le (len_drop _ _)
  · exact len_put _ _ _
end FR
namespace FR
open PySem PySem.Spec PyProof.Rows L2 SF
section
variable {X : Cx} {pins : List (Addr × Obj)} {σ : L2.St} {H : Hp} {s : Shared}
theorem tup_reads (I : Inv X pins σ H s) {t : Addr} {ns : Pt} (h : H t = some (.tup (ns.map V.int))) : Reads s.heap (.ref t) (.tuple (ns.map .int)) [] := by
  obtain ⟨_, us, rv, o, g1, g2, n, g3⟩ := (show ObjOk X.prog X.w H s.heap t (.tup (ns.map V.int)) from I.hok _ _ h)
  exact Reads.tuple g1 g2 g3 (by simpa using readsAll_ints (h := s.heap) rv)
theorem dataLt_t (x y : Pt) : PySem.W.dataLt (.tuple (x.map .int)) (.tuple (y.map .int)) = decide (x < y) := PySem.W.dataLt_ints x y
theorem eqv_intsL : ∀ {x y : Pt}, PyData.eqvAll (x.map .int) (y.map .int) = true → x = y
  | [], [], _ => rfl
  | [], _ :: _, h => by simp [PyData.eqvAll] at h
  | _ :: _, [], h => by simp [PyData.eqvAll] at h
  | a :: x, b :: y, h => by
    simp only [List.map_cons, PyData.eqvAll, Bool.and_eq_true, PyData.eqv, beq_iff_eq] at h
    rw [h.1, eqv_intsL h.2]
theorem eqv_ints (x y : Pt) (h : PyData.eqv (.tuple (x.map .int)) (.tuple (y.map .int)) = true) : x = y := eqv_intsL (by simpa [PyData.eqv] using h)
/-- t < u of tuples of whole numbers -/
def rLtI : R2 := fun x y H Q => ∃ (a b : Addr) (ns ms : Pt), x = .ref a ∧ y = .ref b ∧ H a = some (.tup (ns.map V.int)) ∧ H b = some (.tup (ms.map V.int)) ∧ Q (.bl (decide (ns < ms))) H
theorem op_ltI (hr : Room 1 X.A) : OpR X (compareOp .Lt) rLtI := by
  intro pins s σ H x y v u Q I rx ry h
  obtain ⟨a, b, ns, ms, e1, e2, ha, hb, q⟩ := h
  subst e1 e2
  cases rx
  cases ry
  have z := PySem.W.rcLt_alike (.tuple (ns.map .int)) (.tuple (ms.map .int)) X.A s _ _ _ _ (tup_reads I ha) (tup_reads I hb) (PySem.W.alike_ints ns ms) (by intro z; cases z) (by
    have u := hr.units
    have d := depth_tup (a, ns)
    have d2 : (PyData.tuple (ns.map .int)).depth ≤ 1 := d
    omega)
  refine z X.prog X.w X.xe _ ?_
  rw [dataLt_t]
  exact ⟨.bl _, H, I, rfl, q⟩
/-- (i, t) < (j, u) -/
def rLtK : R2 := fun x y H Q => ∃ (a b p q : Addr) (i j : Int) (ns ms : Pt), x = .ref a ∧ y = .ref b ∧ H a = some (.tup [.int i, .ref p]) ∧ H b = some (.tup [.int j, .ref q]) ∧ H p = some (.tup (ns.map V.int)) ∧ H q = some (.tup (ms.map V.int)) ∧
  Q (.bl (decide (i < j ∨ (i = j ∧ ns < ms)))) H
theorem key_reads (I : Inv X pins σ H s) {a p : Addr} {i : Int} {ns : Pt} (h : H a = some (.tup [.int i, .ref p])) (hp : H p = some (.tup (ns.map V.int))) : Reads s.heap (.ref a) (.tuple [.int i, .tuple (ns.map .int)]) [] := by
  obtain ⟨_, us, rv, o, g1, g2, n, g3⟩ := (show ObjOk X.prog X.w H s.heap a (.tup [.int i, .ref p]) from I.hok _ _ h)
  obtain ⟨u1, u2, e, r1, r2⟩ := vals2 rv
  subst e
  obtain ⟨t, e⟩ := r1
  subst e
  cases r2
  exact Reads.tuple g1 g2 g3 (.cons (as := []) (bs := []) (.int i t) (.cons (as := []) (bs := []) (tup_reads I hp) .nil))
theorem op_ltK (hr : Room 1 X.A) : OpR X (compareOp .Lt) rLtK := by
  intro pins s σ H x y v u Q I rx ry h
  obtain ⟨a, b, p, q, i, j, ns, ms, e1, e2, ha, hb, hp, hq, qq⟩ := h
  subst e1 e2
  cases rx
  cases ry
  have al : PySem.W.alike (.tuple [.int i, .tuple (ns.map .int)]) (.tuple [.int j, .tuple (ms.map .int)]) = true := by
    have z := PySem.W.alike_ints ns ms
    simp [PySem.W.alike, PySem.W.alikeAll, z]
  have z := PySem.W.rcLt_alike (.tuple [.int i, .tuple (ns.map .int)]) (.tuple [.int j, .tuple (ms.map .int)]) X.A s _ _ _ _ (key_reads I ha hp) (key_reads I hb hq) al (by intro z; cases z) (by
    have u := hr.units
    have d2 : (PyData.tuple [.int i, .tuple (ns.map .int)]).depth ≤ 2 := by
      have d := PySem.W.depth_ints ns
      simp [PyData.depth, PyData.depthAll, d]
    omega)
  refine z X.prog X.w X.xe _ ?_
  have e : PySem.W.dataLt (.tuple [.int i, .tuple (ns.map .int)]) (.tuple [.int j, .tuple (ms.map .int)]) = decide (i < j ∨ (i = j ∧ ns < ms)) := by
    rw [PySem.W.dataLt_pair (x := .int i) (x' := .int j) (y := .tuple (ns.map .int)) (y' := .tuple (ms.map .int)) (by simp [PySem.W.alike]) (by simp [PySem.W.alike, PySem.W.alike_ints]), PySem.W.dataLt_int, dataLt_t]
    have eq1 : PyData.eqv (.int i) (.int j) = decide (i = j) := by simp [PyData.eqv, Bool.beq_eq_decide_eq]
    rw [eq1]
    by_cases c : i = j
    · subst c
      have ne : ¬ (i < i) := Int.lt_irrefl i
      by_cases d : ns < ms
      · have nq : PyData.eqv (.tuple (ns.map .int)) (.tuple (ms.map .int)) = false := by
          cases hq : PyData.eqv (.tuple (ns.map .int)) (.tuple (ms.map .int)) with
          | false => rfl
          | true =>
            have e2 : ns = ms := eqv_ints ns ms hq
            rw [e2] at d
            exact absurd d (List.lt_irrefl ms)
        simp [d, nq]
      · simp [d]
    · simp [c]
  rw [e]
  exact ⟨.bl _, H, I, rfl, qq⟩
end
end FR
namespace FR
open PySem PySem.Spec PyProof.Rows L2 SF RZ
theorem line_of {n : Nat} (h : n ≤ 100000) : n ≤ sizeLine := Nat.le_trans h (by rw [sizeLine_eq]; decide)
theorem line_lt {n : Nat} (h : n ≤ 100000) : n < sizeLine := Nat.lt_of_le_of_lt h (by rw [sizeLine_eq]; decide)
theorem walk_zipT {K : PySem.W.Frag} {a b : Addr} {xs ys : List V} {n : Nat} (hn : n = min xs.length ys.length) : L2.Walk (ItzT K a b) n (fun H => SqT K H a xs ∧ SqT K H b ys) (YPair (fun i => xs[i]?) (fun i => ys[i]?)) := by
  subst hn
  refine ⟨fun i _ hi q => ?_, fun _ q => ⟨xs, ys, q.1, q.2, by omega⟩, fun i H v H' _ q y => ?_⟩
  · exact ⟨xs, ys, xs[i]'(by omega), ys[i]'(by omega), q.1, q.2, List.getElem?_eq_getElem _, List.getElem?_eq_getElem _⟩
  · obtain ⟨T, x, z, h1, h2, h3, h4, h5⟩ := y
    exact ⟨T, x, z, h1, h2, h3, h4 xs q.1, h5 ys q.2⟩
/-! ### comprehensions that only make -/
section
variable {J : It} {n : Nat} {G : Hp → Prop} {Y : Nat → Hp → V → Hp → Prop} {g : TG} {tt : TT} {te : TE} {vs : List Nat} {σ : L2.St} {H1 : Hp} {β : Type} {R : Rv β}
theorem range_succ_fm (f : Nat → Option β) (i : Nat) : (List.range (i + 1)).filterMap f = (List.range i).filterMap f ++ (f i).toList := by
  rw [List.range_succ, List.filterMap_append]
  cases h : f i <;> simp [h]
theorem fm_len (f : Nat → Option β) (i : Nat) : ((List.range i).filterMap f).length ≤ i := by
  have z := List.length_filterMap_le f (List.range i)
  rwa [List.length_range] at z
/-- f i: what the i-th turn adds -/
theorem lc_pure (w : L2.Walk J n G Y) (f : Nat → Option β) (mR : Mo R) (hn : n ≤ 100000) (hG : ∀ H, Ex H1 H → G H)
    (hs : ∀ i x H H' (C : V → Hp → Prop) (N : Hp → Prop), i < n → Ex H1 H → Y i H x H' → (∀ b y H4, f i = some b → Ex H H4 → R H4 y b → C y H4) → (f i = none → ∀ H3, Ex H H3 → N H3) →
      g x (wipe σ vs) H' fun σ2 H2 => wipe σ2 vs = wipe σ vs ∧ tt σ2 H2 fun b H3 => if b = true then te σ2 H3 C else N H3)
    {D : Addr} (nD : H1 D = none) {Qd : Hp → Prop} (hd : ∀ H acc, Ex H1 H → H D = some (.lst acc) → All R H acc ((List.range n).filterMap f) → Qd H) :
    ∃ W : Nat → Nat → Hp → Prop, (∃ m, W 0 m (upd H1 D (.lst []))) ∧ ∀ i m H, W i m H → (J.stop i H ∧ Qd H) ∨ (J.go i H ∧ ∃ Nx : Hp → Prop, (∀ H', Nx H' → ∃ m', m' < m ∧ W (i + 1) m' H') ∧
      ∀ x H', J.yld i H x H' → g x (wipe σ vs) H' fun σ2 H2 => wipe σ2 vs = wipe σ vs ∧ tt σ2 H2 fun b H3 => if b = true then te σ2 H3 fun y H4 => ∃ acc, H4 D = some (.lst acc) ∧ acc.length < sizeLine ∧ Nx (upd H4 D (.lst (acc ++ [y]))) else Nx H3) := by
  refine lc_it w (fun i H => Ex H1 H ∧ ∃ acc, H D = some (.lst acc) ∧ All R H acc ((List.range i).filterMap f)) ⟨.nw nD, [], upd_same, .nil⟩ (fun i H _ z => hG H z.1) (fun i x H H' hi z y => ?_) fun H z => ?_
  · obtain ⟨e, acc, hD, ha⟩ := z
    refine hs i x H H' _ _ hi e y (fun b v H4 hb e4 r => ?_) (fun hb H3 e3 => ?_)
    · have hD4 := e4 _ _ hD
      refine ⟨acc, hD4, line_lt (by have z1 := ha.len; have z2 := fm_len f i; omega), (Ex.tr e e4).mt nD, _, upd_same, ?_⟩
      rw [range_succ_fm, hb]
      have m : Imm H4 (upd H4 D (.lst (acc ++ [v]))) := .lst hD4
      exact All.snoc (mR m r) ((ha.mo mR (.of e4)).mo mR m)
    · refine ⟨e.tr e3, acc, e3 _ _ hD, ?_⟩
      rw [range_succ_fm, hb]
      have z := ha.mo mR (.of e3)
      simpa using z
  · obtain ⟨e, acc, hD, ha⟩ := z
    exact hd H acc e hD ha
end
theorem range_take {α β : Type} (ds : List α) (F : α → Option β) : ∀ n, (List.range n).filterMap (fun i => ds[i]?.bind F) = (ds.take n).filterMap F
  | 0 => by simp
  | n + 1 => by
    rw [range_succ_fm, range_take ds F n, List.take_add_one, List.filterMap_append]
    congr 1
    cases h : ds[n]? with
    | none => rfl
    | some a =>
      show (F a).toList = List.filterMap F [a]
      cases hf : F a <;> simp [hf]
theorem range_data {α β : Type} (ds : List α) (F : α → Option β) : (List.range ds.length).filterMap (fun i => ds[i]?.bind F) = ds.filterMap F := by
  rw [range_take, List.take_length]
section
variable {g : TG} {tt : TT} {te : TE} {vs : List Nat} {σ : L2.St} {H1 : Hp} {α β : Type} {Q : Rv α} {R : Rv β} {K : PySem.W.Frag}
/-- [.. for x in t]: t a list whose items tell ds -/
theorem lc_seqL {a : Addr} {us : List V} {ds : List α} (ha : SqL K H1 a us) (hd : All Q H1 us ds) (F : α → Option β) (mQ : Mo Q) (mR : Mo R) (hn : ds.length ≤ 100000)
    (hs : ∀ (i : Nat) (d : α) (x : V) (H : Hp) (C : V → Hp → Prop) (N : Hp → Prop), ds[i]? = some d → Ex H1 H → Q H x d → (∀ b y H4, F d = some b → Ex H H4 → R H4 y b → C y H4) → (F d = none → ∀ H3, Ex H H3 → N H3) →
      g x (wipe σ vs) H fun σ2 H2 => wipe σ2 vs = wipe σ vs ∧ tt σ2 H2 fun b H3 => if b = true then te σ2 H3 C else N H3)
    {D : Addr} (nD : H1 D = none) {Qd : Hp → Prop} (hz : ∀ H acc, Ex H1 H → H D = some (.lst acc) → All R H acc (ds.filterMap F) → Qd H) :
    ∃ W : Nat → Nat → Hp → Prop, (∃ m, W 0 m (upd H1 D (.lst []))) ∧ ∀ i m H, W i m H → ((Itl K a).stop i H ∧ Qd H) ∨ ((Itl K a).go i H ∧ ∃ Nx : Hp → Prop, (∀ H', Nx H' → ∃ m', m' < m ∧ W (i + 1) m' H') ∧
      ∀ x H', (Itl K a).yld i H x H' → g x (wipe σ vs) H' fun σ2 H2 => wipe σ2 vs = wipe σ vs ∧ tt σ2 H2 fun b H3 => if b = true then te σ2 H3 fun y H4 => ∃ acc, H4 D = some (.lst acc) ∧ acc.length < sizeLine ∧ Nx (upd H4 D (.lst (acc ++ [y]))) else Nx H3) := by
  refine lc_pure (R := R) (walk_list (K := K) (a := a) (xs := us)) (fun i => ds[i]?.bind F) mR (by rw [hd.len]; exact hn) (fun H e => SqL.ext ha e) (fun i x H H' C N hi e y c1 c2 => ?_) nD fun H acc e hD hA => hz H acc e hD ?_
  · obtain ⟨eH, hx⟩ := y
    subst eH
    obtain ⟨d, h1, h2⟩ := hd.at hx
    exact hs i d x H' C N h1 e (mQ (.of e) h2) (fun b y H4 hb => c1 b y H4 (by rw [h1]; exact hb)) fun hb => c2 (by rw [h1]; exact hb)
  · rw [hd.len, range_data] at hA
    exact hA
/-- .. a tuple -/
theorem lc_seqT {a : Addr} {us : List V} {ds : List α} (ha : SqT K H1 a us) (hd : All Q H1 us ds) (F : α → Option β) (mQ : Mo Q) (mR : Mo R) (hn : ds.length ≤ 100000)
    (hs : ∀ (i : Nat) (d : α) (x : V) (H : Hp) (C : V → Hp → Prop) (N : Hp → Prop), ds[i]? = some d → Ex H1 H → Q H x d → (∀ b y H4, F d = some b → Ex H H4 → R H4 y b → C y H4) → (F d = none → ∀ H3, Ex H H3 → N H3) →
      g x (wipe σ vs) H fun σ2 H2 => wipe σ2 vs = wipe σ vs ∧ tt σ2 H2 fun b H3 => if b = true then te σ2 H3 C else N H3)
    {D : Addr} (nD : H1 D = none) {Qd : Hp → Prop} (hz : ∀ H acc, Ex H1 H → H D = some (.lst acc) → All R H acc (ds.filterMap F) → Qd H) :
    ∃ W : Nat → Nat → Hp → Prop, (∃ m, W 0 m (upd H1 D (.lst []))) ∧ ∀ i m H, W i m H → ((Itt K a).stop i H ∧ Qd H) ∨ ((Itt K a).go i H ∧ ∃ Nx : Hp → Prop, (∀ H', Nx H' → ∃ m', m' < m ∧ W (i + 1) m' H') ∧
      ∀ x H', (Itt K a).yld i H x H' → g x (wipe σ vs) H' fun σ2 H2 => wipe σ2 vs = wipe σ vs ∧ tt σ2 H2 fun b H3 => if b = true then te σ2 H3 fun y H4 => ∃ acc, H4 D = some (.lst acc) ∧ acc.length < sizeLine ∧ Nx (upd H4 D (.lst (acc ++ [y]))) else Nx H3) := by
  refine lc_pure (R := R) (walk_tup (K := K) (a := a) (xs := us)) (fun i => ds[i]?.bind F) mR (by rw [hd.len]; exact hn) (fun H e => SqT.ext ha e) (fun i x H H' C N hi e y c1 c2 => ?_) nD fun H acc e hD hA => hz H acc e hD ?_
  · obtain ⟨eH, hx⟩ := y
    subst eH
    obtain ⟨d, h1, h2⟩ := hd.at hx
    exact hs i d x H' C N h1 e (mQ (.of e) h2) (fun b y H4 hb => c1 b y H4 (by rw [h1]; exact hb)) fun hb => c2 (by rw [h1]; exact hb)
  · rw [hd.len, range_data] at hA
    exact hA
/-- .. range(lo, lo + n) -/
theorem lc_rng {lo : Int} {n : Nat} (F : Nat → Option β) (mR : Mo R) (hn : n ≤ 100000)
    (hs : ∀ i H (C : V → Hp → Prop) (N : Hp → Prop), i < n → Ex H1 H → (∀ b y H4, F i = some b → Ex H H4 → R H4 y b → C y H4) → (F i = none → ∀ H3, Ex H H3 → N H3) →
      g (.int (lo + (i : Nat))) (wipe σ vs) H fun σ2 H2 => wipe σ2 vs = wipe σ vs ∧ tt σ2 H2 fun b H3 => if b = true then te σ2 H3 C else N H3)
    {D : Addr} (nD : H1 D = none) {Qd : Hp → Prop} (hz : ∀ H acc, Ex H1 H → H D = some (.lst acc) → All R H acc ((List.range n).filterMap F) → Qd H) :
    ∃ W : Nat → Nat → Hp → Prop, (∃ m, W 0 m (upd H1 D (.lst []))) ∧ ∀ i m H, W i m H → ((Itr lo n).stop i H ∧ Qd H) ∨ ((Itr lo n).go i H ∧ ∃ Nx : Hp → Prop, (∀ H', Nx H' → ∃ m', m' < m ∧ W (i + 1) m' H') ∧
      ∀ x H', (Itr lo n).yld i H x H' → g x (wipe σ vs) H' fun σ2 H2 => wipe σ2 vs = wipe σ vs ∧ tt σ2 H2 fun b H3 => if b = true then te σ2 H3 fun y H4 => ∃ acc, H4 D = some (.lst acc) ∧ acc.length < sizeLine ∧ Nx (upd H4 D (.lst (acc ++ [y]))) else Nx H3) := by
  refine lc_pure (R := R) (walk_range (lo := lo) (n := n)) F mR hn (fun _ _ => trivial) (fun i x H H' C N hi e y c1 c2 => ?_) nD fun H acc e hD hA => hz H acc e hD hA
  obtain ⟨eH, ex⟩ := y
  subst eH ex
  exact hs i H' C N hi e c1 c2
/-- [.. for a, b in zip(t, u)] of two tuples of whole numbers -/
theorem lc_zip {a b : Addr} {xs ys : Pt} {n : Nat} (hx : SqT K H1 a (xs.map V.int)) (hy : SqT K H1 b (ys.map V.int)) (hl : n = min xs.length ys.length) (F : Int → Int → β) (mR : Mo R) (hn : n ≤ 100000)
    (hs : ∀ (c d : Int) (T : Addr) (H : Hp) (C : V → Hp → Prop) (N : Hp → Prop), Ex H1 H → H T = some (.tup [.int c, .int d]) → (∀ y H4, Ex H H4 → R H4 y (F c d) → C y H4) →
      g (.ref T) (wipe σ vs) H fun σ2 H2 => wipe σ2 vs = wipe σ vs ∧ tt σ2 H2 fun b H3 => if b = true then te σ2 H3 C else N H3)
    {D : Addr} (nD : H1 D = none) {Qd : Hp → Prop} (hz : ∀ H acc, Ex H1 H → H D = some (.lst acc) → All R H acc (List.zipWith F xs ys) → Qd H) :
    ∃ W : Nat → Nat → Hp → Prop, (∃ m, W 0 m (upd H1 D (.lst []))) ∧ ∀ i m H, W i m H → ((ItzT K a b).stop i H ∧ Qd H) ∨ ((ItzT K a b).go i H ∧ ∃ Nx : Hp → Prop, (∀ H', Nx H' → ∃ m', m' < m ∧ W (i + 1) m' H') ∧
      ∀ x H', (ItzT K a b).yld i H x H' → g x (wipe σ vs) H' fun σ2 H2 => wipe σ2 vs = wipe σ vs ∧ tt σ2 H2 fun b H3 => if b = true then te σ2 H3 fun y H4 => ∃ acc, H4 D = some (.lst acc) ∧ acc.length < sizeLine ∧ Nx (upd H4 D (.lst (acc ++ [y]))) else Nx H3) := by
  refine lc_pure (R := R) (walk_zipT (K := K) (a := a) (b := b) (xs := xs.map V.int) (ys := ys.map V.int) (n := n) (by simpa using hl)) (fun i => (List.zipWith F xs ys)[i]?) mR hn (fun H e => ⟨SqT.ext hx e, SqT.ext hy e⟩) (fun i x H H' C N hi e y c1 c2 => ?_) nD fun H acc e hD hA => hz H acc e hD ?_
  · obtain ⟨T, v, u, h1, h2, h3, h4, h5⟩ := y
    subst h1 h3
    have ix : i < xs.length := by omega
    have iy : i < ys.length := by omega
    dsimp only at h4 h5
    rw [List.getElem?_map, List.getElem?_eq_getElem ix] at h4
    rw [List.getElem?_map, List.getElem?_eq_getElem iy] at h5
    have ev := Option.some.inj h4
    have eu := Option.some.inj h5
    subst ev eu
    have hf : (List.zipWith F xs ys)[i]? = some (F xs[i] ys[i]) := by
      rw [List.getElem?_zipWith, List.getElem?_eq_getElem ix, List.getElem?_eq_getElem iy]
    exact hs xs[i] ys[i] T _ C N (e.tr (.nw h2)) upd_same fun y H4 e4 r => c1 _ y H4 hf ((Ex.nw h2).tr e4) r
  · have el : (List.range n).filterMap (fun i => (List.zipWith F xs ys)[i]?) = List.zipWith F xs ys := by
      have z := range_data (List.zipWith F xs ys) (fun b => some b)
      rw [List.length_zipWith, ← hl] at z
      simpa using z
    rw [el] at hA
    exact hA
end
/-! ### for loops that fold -/
section
variable {g : TG} {tb : TS} {D : Ends} {σ : L2.St} {H1 : Hp} {α S : Type} {Q : Rv α} {K : PySem.W.Frag}
theorem fold_take {ds : List α} {i : Nat} {d : α} (step : S → α → S) (s0 : S) (h : ds[i]? = some d) : (ds.take (i + 1)).foldl step s0 = step ((ds.take i).foldl step s0) d := by
  rw [List.take_add_one, h, List.foldl_append]
  rfl
theorem for_seqL {a : Addr} {us : List V} {ds : List α} (hd : All Q H1 us ds) (mQ : Mo Q) (step : S → α → S) (s0 : S) (I : Nat → S → L2.St → Hp → Prop) (h0 : I 0 s0 σ H1) (hI : ∀ i s σ H, I i s σ H → SqL K H a us ∧ Imm H1 H)
    (hs : ∀ (i : Nat) (s : S) (d : α) (x : V) (σ : L2.St) (H : Hp), ds[i]? = some d → Q H x d → I i s σ H → g x σ H fun σ2 H2 => tb { D with nx := I (i + 1) (step s d), ct := I (i + 1) (step s d), bk := D.nx } σ2 H2) (hz : ∀ σ H, I ds.length (ds.foldl step s0) σ H → D.nx σ H) :
    ∃ W : Nat → Nat → L2.St → Hp → Prop, (∃ m, W 0 m σ H1) ∧ ∀ i m σ H, W i m σ H → ((Itl K a).stop i H ∧ D.nx σ H) ∨ ((Itl K a).go i H ∧ ∃ N : L2.St → Hp → Prop, (∀ σ' H', N σ' H' → ∃ m', m' < m ∧ W (i + 1) m' σ' H') ∧
      ∀ x H', (Itl K a).yld i H x H' → g x σ H' fun σ2 H2 => tb { D with nx := N, ct := N, bk := D.nx } σ2 H2) := by
  refine for_list (K := K) (a := a) (xs := us) (fun i σ H => I i ((ds.take i).foldl step s0) σ H) h0 (fun i σ H _ z => (hI _ _ _ _ z).1) (fun i x σ H hx z => ?_) fun σ H z => ?_
  · obtain ⟨d, h1, h2⟩ := hd.at hx
    have e := fold_take step s0 h1
    rw [e]
    exact hs i _ d x σ H h1 (mQ (hI _ _ _ _ z).2 h2) z
  · rw [hd.len, List.take_length] at z
    exact hz σ H z
theorem for_seqT {a : Addr} {us : List V} {ds : List α} (hd : All Q H1 us ds) (mQ : Mo Q) (step : S → α → S) (s0 : S) (I : Nat → S → L2.St → Hp → Prop) (h0 : I 0 s0 σ H1) (hI : ∀ i s σ H, I i s σ H → SqT K H a us ∧ Imm H1 H)
    (hs : ∀ (i : Nat) (s : S) (d : α) (x : V) (σ : L2.St) (H : Hp), ds[i]? = some d → Q H x d → I i s σ H → g x σ H fun σ2 H2 => tb { D with nx := I (i + 1) (step s d), ct := I (i + 1) (step s d), bk := D.nx } σ2 H2) (hz : ∀ σ H, I ds.length (ds.foldl step s0) σ H → D.nx σ H) :
    ∃ W : Nat → Nat → L2.St → Hp → Prop, (∃ m, W 0 m σ H1) ∧ ∀ i m σ H, W i m σ H → ((Itt K a).stop i H ∧ D.nx σ H) ∨ ((Itt K a).go i H ∧ ∃ N : L2.St → Hp → Prop, (∀ σ' H', N σ' H' → ∃ m', m' < m ∧ W (i + 1) m' σ' H') ∧
      ∀ x H', (Itt K a).yld i H x H' → g x σ H' fun σ2 H2 => tb { D with nx := N, ct := N, bk := D.nx } σ2 H2) := by
  refine for_tup (K := K) (a := a) (xs := us) (fun i σ H => I i ((ds.take i).foldl step s0) σ H) h0 (fun i σ H _ z => (hI _ _ _ _ z).1) (fun i x σ H hx z => ?_) fun σ H z => ?_
  · obtain ⟨d, h1, h2⟩ := hd.at hx
    have e := fold_take step s0 h1
    rw [e]
    exact hs i _ d x σ H h1 (mQ (hI _ _ _ _ z).2 h2) z
  · rw [hd.len, List.take_length] at z
    exact hz σ H z
/-- for k in d: a dict with tuple keys, locked -/
theorem for_keysT {d : Addr} {o : Obj} {kvs : List (List Key × V)} {T : List (Pt × α)} (hd : TabV Q H1 kvs T) (mQ : Mo Q) (step : S → Pt × α → S) (s0 : S) (I : Nat → S → L2.St → Hp → Prop) (h0 : I 0 s0 σ H1) (hI : ∀ i s σ H, I i s σ H → H d = some (.frz o (.dT kvs)) ∧ Imm H1 H)
    (hs : ∀ (i : Nat) (s : S) (q : Pt × α) (v x : V) (σ : L2.St) (H : Hp), T[i]? = some q → kvs[i]? = some (KI q.1, v) → Q H v q.2 → RT H x q.1 → I i s σ H → g x σ H fun σ2 H2 => tb { D with nx := I (i + 1) (step s q), ct := I (i + 1) (step s q), bk := D.nx } σ2 H2) (hz : ∀ σ H, I T.length (T.foldl step s0) σ H → D.nx σ H) :
    ∃ W : Nat → Nat → L2.St → Hp → Prop, (∃ m, W 0 m σ H1) ∧ ∀ i m σ H, W i m σ H → ((Itkt d o kvs).stop i H ∧ D.nx σ H) ∨ ((Itkt d o kvs).go i H ∧ ∃ N : L2.St → Hp → Prop, (∀ σ' H', N σ' H' → ∃ m', m' < m ∧ W (i + 1) m' σ' H') ∧
      ∀ x H', (Itkt d o kvs).yld i H x H' → g x σ H' fun σ2 H2 => tb { D with nx := N, ct := N, bk := D.nx } σ2 H2) := by
  refine for_it (walk_keysT (d := d) (o := o) (kvs := kvs)) (fun i σ H => I i ((T.take i).foldl step s0) σ H) h0 (fun i σ H _ z => (hI _ _ _ _ z).1) (fun i x σ H H' hi z y => ?_) fun σ H z => ?_
  · obtain ⟨eH, k, v, q, h1, h2, h3⟩ := y
    subst eH h2
    have key : ∃ t : Pt × α, T[i]? = some t ∧ k = KI t.1 ∧ Q H1 v t.2 := by
      clear hI hs hz h0 z h3 hi
      induction hd generalizing i with
      | nil => simp at h1
      | @cons p t ps ts a u ih =>
        cases i with
        | zero =>
          simp at h1
          subst h1
          exact ⟨t, rfl, a⟩
        | succ i => simpa using ih i (by simpa using h1)
    obtain ⟨t, g1, g2, g3⟩ := key
    subst g2
    have e := fold_take step s0 g1
    rw [e]
    exact hs i _ t v _ σ H' g1 h1 (mQ (hI _ _ _ _ z).2 g3) ⟨q, rfl, by rw [KI_kV] at h3; exact h3⟩ z
  · rw [hd.len, List.take_length] at z
    exact hz σ H z
end
end FR
namespace FB
open PySem PySem.Spec PyProof.Rows L2 SF FR
abbrev CR (K : PySem.W.Frag) : Addr := He.ga K "Ratio"
abbrev CL (K : PySem.W.Frag) : Addr := He.ga K "Letters"
abbrev CS (K : PySem.W.Frag) : Addr := He.ga K "Symmetric"
/-- what the walks need of the written part and of the module's names -/
structure Tx (K : PySem.W.Frag) (mg : Str → Option Value) : Prop where
  d : ∀ (i : Nat) (d : He.DefD), fn[i]? = some d → ∃ fd, FunD K d.name d.qual d.params d.body d.scope (d.dvs K) (d.kws K) (He.fAd K d.at_) fd
  a : ∀ (i : Nat) (f : He.Fa), fa[i]? = some f → f.ok K = true
  g : ∀ x, globs.contains x = true → mg x = some (.ref (He.ga K x))
  f : ∀ x, frees.contains x = true → mg x = none
  e : ex K = true
  gcd : mg "gcd" = some (.builtin "math.gcd")
  mp : ∃ t, mg "MOST_partition" = some (.int 12 t)
  ml : ∃ t, mg "MOST_letters" = some (.int 8 t)
  md : ∃ t, mg "MOST_DEGREE" = some (.int 8 t)
  mb : ∃ t, mg "BASES" = some (.str "mehps" t)
/-- a def of the module that can be called -/
def Cal (P : Program) (w : World) (K : PySem.W.Frag) (mg : Str → Option Value) (base : Heap) (k : Nat) (x : Str) (ps : List Str) (ds : List V) (sp : Sp) : Prop :=
  ∃ f fd us, FnOk P w K mg base CX0 k f fd ps sp ∧ mg x = some (.ref f) ∧ PySem.W.keepIn K (.ref f) = true ∧ Binds K fd ps us ∧ Vals ds us
/-- a method -/
def CalM (P : Program) (w : World) (K : PySem.W.Frag) (mg : Str → Option Value) (base : Heap) (k : Nat) (C : Addr) (m : Str) (ps : List Str) (ds : List V) (sp : Sp) : Prop :=
  ∃ f fd us, FnOk P w K mg base CX0 k f fd ps sp ∧ Meth K C m f ∧ Binds K fd ps us ∧ Vals ds us
/-- a class, by its __init__ -/
def CalI (P : Program) (w : World) (K : PySem.W.Frag) (mg : Str → Option Value) (base : Heap) (k : Nat) (x : Str) (ps : List Str) (ds : List V) (sp : Sp) : Prop :=
  ∃ f fd us, FnOk P w K mg base CX0 k f fd ps sp ∧ mg x = some (.ref (He.ga K x)) ∧ Mk K (He.ga K x) f ∧ Binds K fd ps us ∧ Vals ds us
theorem Cal.mono {P : Program} {w : World} {K : PySem.W.Frag} {mg : Str → Option Value} {base : Heap} {j k : Nat} {x : Str} {ps : List Str} {ds : List V} {sp : Sp} (c : Cal P w K mg base j x ps ds sp) (h : j ≤ k) : Cal P w K mg base k x ps ds sp := by
  obtain ⟨f, fd, us, h1, h2⟩ := c
  exact ⟨f, fd, us, h1.mono h, h2⟩
section
variable {X : Cx} {k j : Nat} {ps : List Str} {ds : List V} {sp : Sp} {x m : Str} {p pos apos : Pos} {e o : Expr} {es : List Expr} {ta : TE} {t : TA} {C : Addr}
theorem pe_cg (c : Cal X.prog X.w X.K X.mg X.base k x ps ds sp) (hr : Room k X.A) (ha : PA X (e :: es) t) (hg : Gl X x := by rfl) (hdb : (x == ("__debug__" : Str)) = false := by decide)
    (he : starEach (e :: es) X.env = (false, eval e X.env) :: starEach es X.env := by rfl) (hpl : (backTo pos (starEach es X.env)).any (·.1) = false := by rfl) : PE X (.Call (.Name x p) (e :: es) [] pos) (tCall sp ds E0 t) := by
  obtain ⟨f, fd, us, h1, h2, h3, h4, h5⟩ := c
  exact pe_call h1 hr hg h2 h3 h4 h5 pass0 ha hdb he hpl
theorem pe_mg {pl : Sem Bool} (he : PE X o ta) (cl : Cls X.K C) (c : CalM X.prog X.w X.K X.mg X.base k C m ps ds sp) (hr : Room k X.A) (ha : PA X (e :: es) t)
    (hst : starEach (e :: es) X.env = (false, eval e X.env) :: starEach es X.env := by rfl) (hpl : (backTo pos (starEach es X.env)).any (·.1) = false := by rfl)
    (ht : eval (.Call (.Attribute o m apos) (e :: es) [] pos) X.env = (do
      let ov ← eval o X.env
      standAt apos.atName
      let (f, first) ← holding [ov] (getMethod ov m pl)
      callWith pos f first (backTo pos (starEach (e :: es) X.env)) (backToKw pos (keywordEach [] X.env))) := by rfl) : PE X (.Call (.Attribute o m apos) (e :: es) [] pos) (tMeth C m sp ds E0 ta t) := by
  obtain ⟨f, fd, us, h1, h2, h4, h5⟩ := c
  exact pe_meth (pl := pl) he cl h2 h1 hr h4 h5 pass0 ha hst hpl ht
theorem pe_mg0 {pl : Sem Bool} (he : PE X o ta) (cl : Cls X.K C) (c : CalM X.prog X.w X.K X.mg X.base k C m ps ds sp) (hr : Room k X.A)
    (ht : eval (.Call (.Attribute o m apos) [] [] pos) X.env = (do
      let ov ← eval o X.env
      standAt apos.atName
      let (f, first) ← holding [ov] (getMethod ov m pl)
      callWith pos f first (backTo pos (starEach [] X.env)) (backToKw pos (keywordEach [] X.env))) := by rfl) : PE X (.Call (.Attribute o m apos) [] [] pos) (tMeth C m sp ds E0 ta tNil) := by
  obtain ⟨f, fd, us, h1, h2, h4, h5⟩ := c
  exact pe_meth0 (pl := pl) he cl h2 h1 hr h4 h5 pass0 ht
theorem pe_mk (c : CalI X.prog X.w X.K X.mg X.base k x ps ds sp) (hr : Room (k + 1) X.A) (ha : PA X (e :: es) t) (hg : Gl X x := by rfl) (hdb : (x == ("__debug__" : Str)) = false := by decide)
    (he : starEach (e :: es) X.env = (false, eval e X.env) :: starEach es X.env := by rfl) (hpl : (backTo pos (starEach es X.env)).any (·.1) = false := by rfl) : PE X (.Call (.Name x p) (e :: es) [] pos) (tMake (He.ga X.K x) sp ds E0 t) := by
  obtain ⟨f, fd, us, h1, h2, h3, h4, h5⟩ := c
  exact pe_make h3 h1 hr hg h2 h4 h5 pass0 ha hdb he hpl
/-- a class as a value -/
theorem pe_cls (h : X.mg x = some (.ref (He.ga X.K x))) (hg : Gl X x := by rfl) (hd : (x == ("__debug__" : Str)) = false := by decide) : PE X (.Name x p) (tC (.ref (He.ga X.K x))) := pe_glob hg h rfl hd
theorem pe_ty {n : String} (h : X.mg x = none) (hv : bootBuiltins x = some (.type n) := by decide +kernel) (hg : Gl X x := by rfl) (hn : x ≠ "__name__" := by decide) (hd : (x == ("__debug__" : Str)) = false := by decide) : PE X (.Name x p) (tC (.ty n)) := pe_bltn hg h hv rfl hn hd
end
section
variable {K : PySem.W.Frag} {H : Hp} {Q : VK} {x y : V} {xs ys : Pt}
theorem RT.mk {t : Addr} (h : H t = some (.tup (xs.map V.int))) : RT H (.ref t) xs := ⟨t, rfl, h⟩
theorem cat_of (hx : RT H x xs) (hy : RT H y ys) (hl : xs.length + ys.length ≤ 100000) (q : ∀ v H', Ex H H' → RT H' v (xs ++ ys) → Q v H') : rCatA K x y H Q := by
  obtain ⟨a, e1, ha⟩ := hx
  obtain ⟨b, e2, hb⟩ := hy
  subst e1 e2
  refine ⟨a, b, xs.map V.int, ys.map V.int, rfl, rfl, SqT.of ha, SqT.of hb, by rw [List.length_map, List.length_map]; exact line_of hl, fun z => ?_, fun _ z => ?_, fun _ _ p hp => ?_⟩
  · have e : xs = [] := List.map_eq_nil_iff.mp z
    subst e
    exact q _ _ .rf ⟨b, rfl, hb⟩
  · have e : ys = [] := List.map_eq_nil_iff.mp z
    subst e
    exact q _ _ .rf ⟨a, rfl, by rw [List.append_nil]; exact ha⟩
  · exact q _ _ (.nw hp) ⟨p, rfl, by rw [upd_same, List.map_append]⟩
theorem isi_ty {a b : String} {r : Bool} (ty : TyX K H x (.type a)) (h : kitB a b = some r) (q : Q (.bl r) H) : rIsi K [x, .ty b] H Q := ⟨_, _, _, _, _, rfl, .ty b, ty, kit_ty h, q⟩
theorem isi_own {C : Addr} {t : Value} {r : Bool} (ty : TyX K H x t) (h : PySem.W.kitOne K t (.ref C) = some r) (q : Q (.bl r) H) : rIsi K [x, .ref C] H Q := ⟨_, _, _, _, _, rfl, .own C, ty, h, q⟩
theorem DGet.r {a b : Addr} {kvs : List (List Key × V)} {k : List Key} (e : Rd H a (.dT kvs)) (eb : H b = some (.tup (k.map kV))) : DGet H a (.ref b) (valV kvs k) := .inr ⟨kvs, k, b, e, rfl, eb, rfl⟩
end
section
variable {P : Program} {w : World} {K : PySem.W.Frag} {mg : Str → Option Value} {base : Heap}
theorem Tx.cls (T : Tx K mg) {x : Str} (i : Nat) (h : fa[i]? = some (.cls x)) : Cls K (He.ga K x) := He.cls_ok (T.a i _ h)
end
end FB
namespace FR
open PySem PySem.Spec PyProof.Rows L2 SF
theorem ExS.trS {S : List Addr} {H H' H1 : Hp} (e : ExS S H H') (f : ExS S H' H1) : ExS S H H1 := fun a o n h => f a o n (e a o n h)
theorem ExS.rf {S : List Addr} {H : Hp} : ExS S H H := fun a o n h => h
theorem nil_of {σ : L2.St} {H : Hp} {Q : List V → Hp → Prop} (h : Q [] H) : tNil σ H Q := h
theorem cls_of {σ : L2.St} {H : Hp} {c : V} {Q : List V → Hp → Prop} (h : Q [c] H) : tCons (tC c) tNil σ H Q := h
theorem vint {a b : Int} (h : a = b) : V.int a = V.int b := by rw [h]
theorem lst1 {x x' : V} (h : x = x') : [x] ++ [] = [x'] := by rw [h]; rfl
theorem lst2 {x x' y y' : V} (h : x = x') (g : y = y') : [x, y] ++ [] = [x', y'] := by rw [h, g]; rfl
theorem lst3 {x x' y y' z z' : V} (h : x = x') (g : y = y') (k : z = z') : [x, y, z] ++ [] = [x', y', z'] := by rw [h, g, k]; rfl
theorem t0 : ([] : List V).length ≤ sizeLine := Nat.zero_le _
theorem t1 {a : V} : [a].length ≤ sizeLine := line_of (by show 1 ≤ _; decide)
theorem t2 {a b : V} : [a, b].length ≤ sizeLine := line_of (by show 2 ≤ _; decide)
theorem lenL {n : Nat} (h : n ≤ 100000) : n ≤ sizeLine := line_of h
/-- a test whose answer is known -/
theorem ifF {A B : Prop} {b : Bool} (e : b = false) (h : B) : if b = true then A else B := by rw [e]; exact iteF h
theorem ifT {A B : Prop} {b : Bool} (e : b = true) (h : A) : if b = true then A else B := by rw [e]; exact iteT h
theorem eqI {i j : Int} : decide (V.int i = V.int j) = decide (i = j) := by
  by_cases h : i = j
  · rw [decide_eq_true h, decide_eq_true (by rw [h])]
  · rw [decide_eq_false h, decide_eq_false (fun z => h (V.int.inj z))]
theorem eqI_f {i j : Int} (h : i ≠ j) : decide (V.int i = V.int j) = false := by rw [eqI, decide_eq_false h]
theorem eqI_t {i j : Int} (h : i = j) : decide (V.int i = V.int j) = true := by rw [eqI, decide_eq_true h]
end FR
namespace FB
open PySem PySem.Spec PyProof.Rows L2 SF FR
/-- a new list -/
def NewL {α : Type} (R : Rv α) (H H' : Hp) (v : V) (xs : List α) : Prop := ∃ l us, v = .ref l ∧ H l = none ∧ H' l = some (.lst us) ∧ All R H' us xs
/-- D holds the list that is being made -/
structure Bl {α : Type} (R : Rv α) (H0 : Hp) (D : Addr) (xs : List α) (H : Hp) : Prop where
  ex : Ex H0 H
  nw : H0 D = none
  acc : ∃ us, H D = some (.lst us) ∧ All R H us xs
theorem FnOk.vac {P : Program} {w : World} {K : PySem.W.Frag} {mg : Str → Option Value} {base : Heap} {k : Nat} {f : Addr} {fd : FuncData} {ps : List Str} {sp : Sp} (h : ∀ vs H Q E, sp vs H Q E → False) : FnOk P w K mg base CX0 k f fd ps sp :=
  ⟨fun vs H Q E q => (h vs H Q E q).elim, fun A outer s H args us vs Q E _ _ _ _ q => (h vs H Q E q).elim⟩
section
variable {α : Type} {R : Rv α} {H0 H H' H1 : Hp} {D l : Addr} {xs ys : List α} {us vs : List V} {v : V} {x : α} {Q : VK}
theorem Bl.new (hD : H0 D = none) : Bl R H0 D [] (upd H0 D (.lst [])) := ⟨.nw hD, hD, [], upd_same, .nil⟩
theorem Bl.grow (m : Mo R) (b : Bl R H0 D xs H) (e : Ex H H') : Bl R H0 D xs H' := by
  obtain ⟨us, h1, h2⟩ := b.acc
  exact ⟨b.ex.tr e, b.nw, us, e _ _ h1, h2.mo m (.of e)⟩
theorem Bl.imm (b : Bl R H0 D xs H) (e : ExS [D] H H') : Imm H H' := by
  obtain ⟨us, h1, _⟩ := b.acc
  have ne : ∀ a o, H a = some o → (∀ z, o ≠ .lst z) → a ∉ [D] := fun a o ha n z => by
    rw [List.mem_singleton.mp z, h1] at ha
    exact n us (Option.some.inj ha).symm
  exact ⟨fun a ys h => e a _ (ne a _ h (fun z q => by cases q)) h, fun a C dx fs h => e a _ (ne a _ h (fun z q => by cases q)) h⟩
theorem app_of (m : Mo R) (b : Bl R H0 D xs H) (r : R H v x) (hl : xs.length < 100000) (q : ∀ H', Bl R H0 D (xs ++ [x]) H' → ExS [D] H H' → Q .non H') : rAppend (.ref D) [v] H Q := by
  obtain ⟨us, h1, h2⟩ := b.acc
  have im : Imm H (upd H D (.lst (us ++ [v]))) := .lst h1
  refine ⟨D, us, v, rfl, rfl, h1, by rw [h2.len]; exact line_lt (Nat.le_of_lt hl), q _ ⟨b.ex.mt b.nw, b.nw, _, upd_same, All.snoc (m im r) (h2.mo m im)⟩ fun a o n h => ?_⟩
  rw [upd_ne (fun z => n (by rw [z]; exact List.mem_cons_self ..))]
  exact h
theorem ext_of (m : Mo R) (b : Bl R H0 D xs H) (hb : H l = some (.lst vs)) (r : All R H vs ys) (hl : xs.length + ys.length ≤ 100000) (q : ∀ H', Bl R H0 D (xs ++ ys) H' → ExS [D] H H' → Q .non H') : rExtend (.ref D) [.ref l] H Q := by
  obtain ⟨us, h1, h2⟩ := b.acc
  have im : Imm H (upd H D (.lst (us ++ vs))) := .lst h1
  refine ⟨D, l, us, vs, rfl, rfl, h1, hb, by rw [h2.len, r.len]; exact line_of hl, q _ ⟨b.ex.mt b.nw, b.nw, _, upd_same, All.app (r.mo m im) (h2.mo m im)⟩ fun a o n h => ?_⟩
  rw [upd_ne (fun z => n (by rw [z]; exact List.mem_cons_self ..))]
  exact h
theorem Bl.sql {K : PySem.W.Frag} (b : Bl R H0 D xs H) : ∃ us, SqL K H D us := by
  obtain ⟨us, h1, _⟩ := b.acc
  exact ⟨us, SqL.of h1⟩
theorem Bl.newL (b : Bl R H0 D xs H) : NewL R H0 H (.ref D) xs := by
  obtain ⟨us, h1, h2⟩ := b.acc
  exact ⟨D, us, rfl, b.nw, h1, h2⟩
theorem NewL.of (h : NewL R H1 H' v xs) (e : Ex H H1) : NewL R H H' v xs := by
  obtain ⟨l, us, h1, h2, h3⟩ := h
  exact ⟨l, us, h1, e.fr h2, h3⟩
end
end FB
namespace FB
open PySem PySem.Spec PyProof.Rows L2 SF FR
section
variable {P : Program} {w : World} {K : PySem.W.Frag} {mg : Str → Option Value} {base : Heap}
/-- the law's state: two whole numbers, none negative -/
def St2 (H : Hp) (l : Addr) : Prop := ∃ s t : Int, H l = some (.lst [.int s, .int t]) ∧ 0 ≤ s ∧ 0 ≤ t
theorem cutV_ints (ns : List Int) (lo hi : Option Int) : ∃ ms : List Int, cutV (ns.map V.int) lo hi = ms.map V.int := by
  unfold cutV
  exact ⟨_, by rw [← List.map_drop, ← List.map_take]⟩
def spTake : Sp := fun vs H Q _ => ∃ (l : Addr) (m : Int), vs = [.ref l, .int m] ∧ St2 H l ∧ 0 < m ∧ m < 1000 ∧ ∀ r H', ExS [l] H H' → St2 H' l → 0 ≤ r → r < m → Q (.int r) H'
theorem st2_ex {H H' : Hp} {l : Addr} (h : St2 H l) (e : Ex H H') : St2 H' l := by
  obtain ⟨s, t, h1, h2⟩ := h
  exact ⟨s, t, e _ _ h1, h2⟩
theorem exs_upd {H : Hp} {l : Addr} {o : HO} : ExS [l] H (upd H l o) := fun a o n h => by
  rw [upd_ne (fun z => n (by rw [z]; exact List.mem_cons_self ..))]
  exact h
theorem sc_law_take : FnScope ["_law_state_here", "_law_m", "_law_value"] ["_law_state_here", "_law_m"] (defScope (top 55)) := ⟨rfl, rfl, rfl, by decide +kernel, rfl, by decide +kernel, by decide +kernel⟩
theorem ok_law_take (T : Tx K mg) : Cal P w K mg base 1 "_law_take" ["_law_state_here", "_law_m"] [] (spTake) := by
  obtain ⟨fd, F⟩ := T.d 24 _ rfl
  have sc := sc_law_take
  refine ⟨_, fd, [], FunD.ok (k := 0) F sc (fun vs H Q E h => by obtain ⟨_, _, rfl, _⟩ := h; rfl) (fun cdv A outer s H vs Q E hr h => ?_), T.g "_law_take" (by decide +kernel), F.kp, FunD.bindsN F (fun _ _ _ _ _ _ us hl => match us, hl with | [_, _], _ => rfl), .nil⟩
  refine ⟨_, PSs.nox ((pss_cons (ps_if (pt_cmpR op_gt (pe_ix ix_list (pv 0) pe_int (fun _ _ => rfl)) pe_int (nomark _))
  (pss_cons (ps_set (i := 2) sc.nd rfl (Or.inl rfl) (pe_op op_mod (pe_callTy call_int1 (by rfl) (T.f "int" (by decide +kernel)) (by decide +kernel) (pa_cons (pe_ix ix_list (pv 0) pe_int (fun _ _ => rfl)) pa_nil)) (pv 1)))
  (pss_cons (ps_asg (pe_op op_fdiv (pe_ix ix_list (pv 0) pe_int (fun _ _ => rfl)) (pv 1)) (pg_sub (pv 0) pe_int set_list))
  (pss_one (ps_ret (pv 2))))) pss_nil)
  (pss_cons (ps_asg (pe_op op_mod (pe_callTy call_int1 (by rfl) (T.f "int" (by decide +kernel)) (by decide +kernel) (pa_cons (pe_op op_add (pe_op op_mul (pe_ix ix_list (pv 0) pe_int (fun _ _ => rfl)) pe_int) pe_int) pa_nil)) pe_int) (pg_sub (pv 0) pe_int set_list))
  (pss_one (ps_ret (pe_op op_mod (pe_callTy call_int1 (by rfl) (T.f "int" (by decide +kernel)) (by decide +kernel) (pa_cons (pe_op op_fdiv (pe_ix ix_list (pv 0) pe_int (fun _ _ => rfl)) pe_int) pa_nil)) (pv 1))))))), ?_⟩
  obtain ⟨l, m, rfl, ⟨s0, t0, hl, hs, ht⟩, hm, hm2, hQ⟩ := h
  refine ⟨_, rfl, l, _, 0, _, rfl, rfl, SqL.of hl, atI_nat rfl, _, _, rfl, rfl, _, rfl, ?_⟩
  by_cases h0 : 0 < s0
  · refine ifT (decide_eq_true h0) ?_
    refine ⟨_, rfl, l, _, 0, _, rfl, rfl, SqL.of hl, atI_nat rfl, .inl ⟨_, rfl, _, rfl, _, _, rfl, rfl, hm, ?_⟩⟩
    refine ⟨_, rfl, l, _, 0, _, rfl, rfl, SqL.of hl, atI_nat rfl, _, rfl, _, _, rfl, rfl, ⟨hm, by omega⟩, _, rfl, l, _, 0, 0, rfl, rfl, hl, rfl, ?_⟩
    exact ⟨_, rfl, hQ _ _ exs_upd ⟨_, _, upd_same, Int.ediv_nonneg hs (by omega), ht⟩ (Int.emod_nonneg _ (by omega)) (Int.emod_lt_of_pos _ hm)⟩
  · refine ifF (decide_eq_false h0) ?_
    refine ⟨_, rfl, l, _, 1, _, rfl, rfl, SqL.of hl, atI_nat rfl, _, _, rfl, rfl, .inr ⟨by omega, by omega⟩, _, _, rfl, rfl, .inl ⟨_, rfl, _, _, rfl, rfl, by show (0 : Int) < 2147483647; decide, ?_⟩⟩
    refine ⟨_, rfl, l, _, 1, 1, rfl, rfl, hl, rfl, ?_⟩
    refine ⟨_, rfl, l, _, 1, _, rfl, rfl, SqL.of upd_same, atI_nat rfl, _, _, rfl, rfl, ⟨by decide, by decide⟩, .inl ⟨_, rfl, _, rfl, _, _, rfl, rfl, hm, ?_⟩⟩
    exact hQ _ _ exs_upd ⟨_, _, upd_same, hs, Int.emod_nonneg _ (by omega)⟩ (Int.emod_nonneg _ (by omega)) (Int.emod_lt_of_pos _ hm)
def spState (K : PySem.W.Frag) : Sp := fun vs H Q _ => ∃ (a : Addr) (ns : List Int), vs = [.ref a] ∧ SqL K H a (ns.map V.int) ∧ ns.length ≤ 1000 ∧ ∀ l H', Ex H H' → H l = none → St2 H' l → Q (.ref l) H'
theorem sc_law_state : FnScope ["_law_script", "_law_seed", "_law_total", "_law_cell"] ["_law_script"] (defScope (top 54)) := ⟨rfl, rfl, rfl, by decide +kernel, rfl, by decide +kernel, by decide +kernel⟩
theorem ok_law_state (T : Tx K mg) : Cal P w K mg base 1 "_law_state" ["_law_script"] [] (spState K) := by
  obtain ⟨fd, F⟩ := T.d 23 _ rfl
  have sc := sc_law_state
  refine ⟨_, fd, [], FunD.ok (k := 0) F sc (fun vs H Q E h => by obtain ⟨_, _, rfl, _⟩ := h; rfl) (fun cdv A outer s H vs Q E hr h => ?_), T.g "_law_state" (by decide +kernel), F.kp, FunD.bindsN F (fun _ _ _ _ _ _ us hl => match us, hl with | [_], _ => rfl), .nil⟩
  refine ⟨_, PSs.nox ((pss_cons (ps_set (i := 1) sc.nd rfl (Or.inl rfl) pe_int)
  (pss_cons (ps_set (i := 2) sc.nd rfl (Or.inl rfl) pe_int)
  (pss_cons (ps_for PassesOwn.never rfl (pi_list (pe_slice sl_list (pv 0) po_none (po_some pe_int))) (pg_name (i := 3) sc.nd rfl (Or.inl rfl))
  (pss_cons (ps_set (i := 1) sc.nd rfl (Or.inl rfl) (pe_op op_add (pe_op op_mul (pv 1) pe_int) (pe_callB call_abs (by rfl) (T.f "abs" (by decide +kernel)) (by decide +kernel) (pa_cons (pv 3) pa_nil))))
  (pss_one (ps_set (i := 2) sc.nd rfl (Or.inl rfl) (pe_op op_mod (pe_callTy call_int1 (by rfl) (T.f "int" (by decide +kernel)) (by decide +kernel) (pa_cons (pe_op op_add (pe_op op_mul (pv 2) pe_int) (pv 3)) pa_nil)) pe_int)))))
  (pss_one (ps_ret (pe_lst (pa_cons (pv 1) (pa_cons (pv 2) pa_nil))))))))), ?_⟩
  obtain ⟨a, ns, rfl, ha, hn, hQ⟩ := h
  refine ⟨_, rfl, _, rfl, a, _, rfl, ha, fun p hp => ?_⟩
  obtain ⟨ms, hms⟩ := cutV_ints ns none (some 63)
  rw [hms]
  refine ⟨p, rfl, ⟨_, SqL.of upd_same⟩, ?_⟩
  refine for_list (xs := ms.map V.int) (fun i σ H' => ∃ (s t : Int) (c : Option V), σ = [some (.ref a), some (.int s), some (.int t), c] ∧ H' = upd H p (.lst (ms.map V.int)) ∧ 0 ≤ s ∧ 0 ≤ t) ⟨0, 1, none, rfl, rfl, by omega, by omega⟩ (fun i σ H' _ z => ?_) (fun i x σ H' hx z => ?_) fun σ H' z => ?_
  · obtain ⟨s, t, c, rfl, rfl, _⟩ := z
    exact SqL.of upd_same
  · obtain ⟨s, t, c, rfl, rfl, h1, h2⟩ := z
    rw [List.getElem?_map] at hx
    obtain ⟨k, _, rfl⟩ := Option.map_eq_some_iff.mp hx
    refine ⟨_, rfl, _, _, rfl, rfl, .inr ⟨by omega, by omega⟩, _, rfl, _, rfl, _, _, rfl, rfl, ?_⟩
    refine ⟨_, rfl, _, _, rfl, rfl, .inr ⟨by omega, by omega⟩, _, rfl, _, _, rfl, rfl, .inl ⟨_, rfl, _, _, rfl, rfl, by show (0 : Int) < 2147483647; decide, ?_⟩⟩
    refine ⟨_, _, _, rfl, rfl, ?_, Int.emod_nonneg _ (by omega)⟩
    have : 0 ≤ s * 1000003 := Int.mul_nonneg h1 (by omega)
    split <;> omega
  · obtain ⟨s, t, c, rfl, rfl, h1, h2⟩ := z
    exact ⟨_, rfl, _, rfl, t2, fun l hl => hQ _ _ ((Ex.nw hp).tr (.nw hl)) ((Ex.nw hp).fr hl) ⟨_, _, upd_same, h1, h2⟩⟩
def spGcd : Sp := fun vs H Q _ => ∃ a b : Int, vs = [.int a, .int b] ∧ Q (.int ((Int.gcd a b : Nat) : Int)) H
theorem sc_law_gcd : FnScope ["_law_a", "_law_b"] ["_law_a", "_law_b"] (defScope (top 56)) := ⟨rfl, rfl, rfl, by decide +kernel, rfl, by decide +kernel, by decide +kernel⟩
theorem ok_law_gcd (T : Tx K mg) : Cal P w K mg base 1 "_law_gcd" ["_law_a", "_law_b"] [] (spGcd) := by
  obtain ⟨fd, F⟩ := T.d 25 _ rfl
  have sc := sc_law_gcd
  refine ⟨_, fd, [], FunD.ok (k := 0) F sc (fun vs H Q E h => by obtain ⟨_, _, rfl, _⟩ := h; rfl) (fun cdv A outer s H vs Q E hr h => ?_), T.g "_law_gcd" (by decide +kernel), F.kp, FunD.bindsN F (fun _ _ _ _ _ _ us hl => match us, hl with | [_, _], _ => rfl), .nil⟩
  refine ⟨_, PSs.nox ((pss_cons (ps_set (i := 0) sc.nd rfl (Or.inl rfl) (pe_callB call_abs (by rfl) (T.f "abs" (by decide +kernel)) (by decide +kernel) (pa_cons (pv 0) pa_nil)))
  (pss_cons (ps_set (i := 1) sc.nd rfl (Or.inl rfl) (pe_callB call_abs (by rfl) (T.f "abs" (by decide +kernel)) (by decide +kernel) (pa_cons (pv 1) pa_nil)))
  (pss_cons (ps_while PassesOwn.never (pt_cmpR op_ne (pv 1) pe_int (nomark _)) (pss_one (ps_par (i := 0) (j := 1) (by rfl) sc.nd rfl rfl (by decide) rfl rfl (pa_cons (pv 1) (pa_cons (pe_op op_mod (pe_callTy call_int1 (by rfl) (T.f "int" (by decide +kernel)) (by decide +kernel) (pa_cons (pv 0) pa_nil)) (pv 1)) pa_nil)) (by rfl))))
  (pss_one (ps_ret (pv 0))))))), ?_⟩
  obtain ⟨a, b, rfl, hQ⟩ := h
  refine ⟨_, rfl, _, rfl, _, rfl, _, rfl, ?_⟩
  have ea : (if a < 0 then -a else a) = ((a.natAbs : Nat) : Int) := by split <;> omega
  have eb : (if b < 0 then -b else b) = ((b.natAbs : Nat) : Int) := by split <;> omega
  rw [ea, eb]
  refine ⟨fun m σ H' => ∃ x : Nat, σ = [some (.int (x : Int)), some (.int (m : Int))] ∧ H' = H ∧ Nat.gcd x m = Int.gcd a b, ⟨_, _, rfl, rfl, rfl⟩, ?_⟩
  rintro m σ H' ⟨x, rfl, rfl, hg⟩
  refine ⟨_, rfl, rfl, _, rfl, ?_⟩
  cases m with
  | zero =>
    refine ifF rfl ⟨_, rfl, ?_⟩
    rw [Nat.gcd_zero_right] at hg
    rw [hg]
    exact hQ
  | succ m =>
    refine ifT (by rw [eqI_f (by omega)]; rfl) ⟨_, fun σ' H' (z : σ' = _ ∧ H' = _) => ⟨x % (m + 1), Nat.mod_lt _ (Nat.succ_pos m), m + 1, z.1, z.2, by rw [← hg, Nat.gcd_comm, ← Nat.gcd_rec, Nat.gcd_comm]⟩, ?_⟩
    exact ⟨_, rfl, _, rfl, .inl ⟨_, rfl, _, rfl, _, _, rfl, rfl, by omega, _, _, rfl, rfl, rfl⟩⟩
end
end FB
namespace FB
open PySem PySem.Spec PyProof.Rows L2 SF FR
section
variable {P : Program} {w : World} {K : PySem.W.Frag} {mg : Str → Option Value} {base : Heap}
theorem half_of {n d k : Int} (h1 : 0 < d) (h2 : d ≤ 4) (h : 2 * n = k * d) : n / ((Int.gcd n d : Nat) : Int) = hn k ∧ d / ((Int.gcd n d : Nat) : Int) = hd k ∧ 0 < ((Int.gcd n d : Nat) : Int) ∧ ((Int.gcd n d : Nat) : Int) < 1073741824 := by
  have key : ∀ (g : Nat) (a b : Int), 0 < g → n = a * g → d = b * g → Int.gcd a b = 1 → g ≤ 4 → a = hn k → b = hd k → n / ((Int.gcd n d : Nat) : Int) = hn k ∧ d / ((Int.gcd n d : Nat) : Int) = hd k ∧ 0 < ((Int.gcd n d : Nat) : Int) ∧ ((Int.gcd n d : Nat) : Int) < 1073741824 := fun g a b hg ea eb hab hg4 e1 e2 => by
    have e : Int.gcd n d = g := by rw [ea, eb, Int.gcd_mul_right, hab]; simp
    rw [e]
    refine ⟨?_, ?_, by omega, by omega⟩
    · rw [ea, Int.mul_ediv_cancel _ (by omega), e1]
    · rw [eb, Int.mul_ediv_cancel _ (by omega), e2]
  have odd : ∀ z : Int, z % 2 ≠ 0 → Int.gcd z 2 = 1 := fun z hz => by
    have h1 : Int.gcd z 2 ∣ 2 := Int.gcd_dvd_natAbs_right z 2
    have h2 : ((Int.gcd z 2 : Nat) : Int) ∣ z := Int.gcd_dvd_left z 2
    have h3 : Int.gcd z 2 ≤ 2 := Nat.le_of_dvd (by decide) h1
    have h4 : Int.gcd z 2 ≠ 0 := fun q => by rw [q] at h1; omega
    have h5 : Int.gcd z 2 ≠ 2 := fun q => by rw [q] at h2; omega
    omega
  have c : d = 1 ∨ d = 2 ∨ d = 3 ∨ d = 4 := by omega
  unfold hn hd at *
  rcases c with rfl | rfl | rfl | rfl
  · exact key 1 n 1 (by omega) (by omega) (by omega) (by simp) (by omega) (by rw [if_pos (by omega)]; omega) (by rw [if_pos (by omega)])
  · by_cases p : k % 2 = 0
    · exact key 2 (k / 2) 1 (by omega) (by omega) (by omega) (by simp) (by omega) (by rw [if_pos p]) (by rw [if_pos p])
    · exact key 1 k 2 (by omega) (by omega) (by omega) (odd k p) (by omega) (by rw [if_neg p]) (by rw [if_neg p])
  · exact key 3 (k / 2) 1 (by omega) (by omega) (by omega) (by simp) (by omega) (by rw [if_pos (by omega)]) (by rw [if_pos (by omega)])
  · by_cases p : k % 2 = 0
    · exact key 4 (k / 2) 1 (by omega) (by omega) (by omega) (by simp) (by omega) (by rw [if_pos p]) (by rw [if_pos p])
    · exact key 2 k 2 (by omega) (by omega) (by omega) (odd k p) (by omega) (by rw [if_neg p]) (by rw [if_neg p])
theorem hd_pos (k : Int) : 0 < hd k ∧ hd k ≤ 2 := by
  unfold hd
  split <;> omega
theorem hn_hd (k : Int) : 2 * hn k = k * hd k := by
  unfold hn hd
  split <;> omega
theorem gcd_half (k : Int) : Int.gcd (hn k) (hd k) = 1 := by
  have z := half_of (n := hn k) (d := hd k) (k := k) (hd_pos k).1 (by have := (hd_pos k).2; omega) (hn_hd k)
  obtain ⟨_, z2, z3, _⟩ := z
  have p := (hd_pos k).1
  have e : ((Int.gcd (hn k) (hd k) : Nat) : Int) ∣ hd k := Int.gcd_dvd_right _ _
  have e2 := Int.ediv_mul_cancel e
  rw [z2] at e2
  have e3 : ((Int.gcd (hn k) (hd k) : Nat) : Int) = 1 := by
    have : hd k * ((Int.gcd (hn k) (hd k) : Nat) : Int) = hd k * 1 := by rw [e2, Int.mul_one]
    exact Int.eq_of_mul_eq_mul_left (by omega) this
  omega
def spFrac : Sp := fun vs H Q _ => ∃ n d k : Int, vs = [.int n, .int d] ∧ 0 < d ∧ d ≤ 4 ∧ 2 * n = k * d ∧ ∀ v H', Ex H H' → RP H' v k → Q v H'
theorem sc_law_frac : FnScope ["_law_n", "_law_d", "_law_g"] ["_law_n", "_law_d"] (defScope (top 57)) := ⟨rfl, rfl, rfl, by decide +kernel, rfl, by decide +kernel, by decide +kernel⟩
theorem ok_law_frac (T : Tx K mg) : Cal P w K mg base 2 "_law_frac" ["_law_n", "_law_d"] [] (spFrac) := by
  have c_law_gcd := ok_law_gcd (P := P) (w := w) (base := base) T
  obtain ⟨fd, F⟩ := T.d 26 _ rfl
  have sc := sc_law_frac
  refine ⟨_, fd, [], FunD.ok (k := 1) F sc (fun vs H Q E h => by obtain ⟨_, _, _, rfl, _⟩ := h; rfl) (fun cdv A outer s H vs Q E hr h => ?_), T.g "_law_frac" (by decide +kernel), F.kp, FunD.bindsN F (fun _ _ _ _ _ _ us hl => match us, hl with | [_, _], _ => rfl), .nil⟩
  refine ⟨_, PSs.nox ((pss_cons (ps_if (pt_cmpR op_lt (pv 1) pe_int (nomark _))
  (pss_one (ps_par (i := 0) (j := 1) (by rfl) sc.nd rfl rfl (by decide) rfl rfl (pa_cons (pe_un un_neg (pv 0)) (pa_cons (pe_un un_neg (pv 1)) pa_nil)) (by rfl))) pss_nil)
  (pss_cons (ps_set (i := 2) sc.nd rfl (Or.inl rfl) (pe_cg c_law_gcd (hr.mono (by decide)) (pa_cons (pv 0) (pa_cons (pv 1) pa_nil))))
  (pss_one (ps_ret (pe_tup (pa_cons (pe_op op_fdiv (pv 0) (pv 2)) (pa_cons (pe_op op_fdiv (pv 1) (pv 2)) pa_nil)))))))), ?_⟩
  obtain ⟨n, d, k, rfl, h1, h2, h3, hQ⟩ := h
  obtain ⟨g1, g2, g3, g4⟩ := half_of h1 h2 h3
  refine ⟨_, rfl, _, _, rfl, rfl, _, rfl, ifF (decide_eq_false (by omega)) ?_⟩
  refine ⟨_, rfl, _, rfl, n, d, rfl, ?_⟩
  refine ⟨_, rfl, _, rfl, _, _, rfl, rfl, ⟨g3, g4⟩, _, rfl, _, rfl, _, _, rfl, rfl, ⟨g3, g4⟩, t2, fun p hp => ?_⟩
  exact hQ _ _ (.nw hp) ⟨p, rfl, by rw [upd_same, ← g1, ← g2]⟩
def spAdd : Sp := fun vs H Q _ => ∃ (x y : V) (i j : Int), vs = [x, y] ∧ RP H x i ∧ RP H y j ∧ ∀ v H', Ex H H' → RP H' v (i + j) → Q v H'
theorem sc_law_add : FnScope ["_law_a", "_law_b"] ["_law_a", "_law_b"] (defScope (top 58)) := ⟨rfl, rfl, rfl, by decide +kernel, rfl, by decide +kernel, by decide +kernel⟩
theorem ok_law_add (T : Tx K mg) : Cal P w K mg base 3 "_law_add" ["_law_a", "_law_b"] [] (spAdd) := by
  have c_law_frac := ok_law_frac (P := P) (w := w) (base := base) T
  obtain ⟨fd, F⟩ := T.d 27 _ rfl
  have sc := sc_law_add
  refine ⟨_, fd, [], FunD.ok (k := 2) F sc (fun vs H Q E h => by obtain ⟨_, _, _, _, rfl, _⟩ := h; rfl) (fun cdv A outer s H vs Q E hr h => ?_), T.g "_law_add" (by decide +kernel), F.kp, FunD.bindsN F (fun _ _ _ _ _ _ us hl => match us, hl with | [_, _], _ => rfl), .nil⟩
  refine ⟨_, PSs.nox ((pss_one (ps_ret (pe_cg c_law_frac (hr.mono (by decide)) (pa_cons (pe_op op_add (pe_op op_mul (pe_ix ix_tup (pv 0) pe_int (fun _ _ => rfl)) (pe_ix ix_tup (pv 1) pe_int (fun _ _ => rfl))) (pe_op op_mul (pe_ix ix_tup (pv 1) pe_int (fun _ _ => rfl)) (pe_ix ix_tup (pv 0) pe_int (fun _ _ => rfl)))) (pa_cons (pe_op op_mul (pe_ix ix_tup (pv 0) pe_int (fun _ _ => rfl)) (pe_ix ix_tup (pv 1) pe_int (fun _ _ => rfl))) pa_nil)))))), ?_⟩
  obtain ⟨x, y, i, j, rfl, ⟨a, rfl, ha⟩, ⟨b, rfl, hb⟩, hQ⟩ := h
  have p := hd_pos i
  have q := hd_pos j
  refine ⟨_, rfl, a, _, _, _, rfl, rfl, SqT.of ha, atI_nat (j := 0) rfl, ?_⟩
  refine ⟨_, rfl, b, _, _, _, rfl, rfl, SqT.of hb, atI_nat (j := 1) rfl, _, _, rfl, rfl, .inr ⟨by omega, by omega⟩, ?_⟩
  refine ⟨_, rfl, b, _, _, _, rfl, rfl, SqT.of hb, atI_nat (j := 0) rfl, ?_⟩
  refine ⟨_, rfl, a, _, _, _, rfl, rfl, SqT.of ha, atI_nat (j := 1) rfl, _, _, rfl, rfl, .inr ⟨by omega, by omega⟩, _, _, rfl, rfl, ?_⟩
  refine ⟨_, rfl, a, _, _, _, rfl, rfl, SqT.of ha, atI_nat (j := 1) rfl, ?_⟩
  refine ⟨_, rfl, b, _, _, _, rfl, rfl, SqT.of hb, atI_nat (j := 1) rfl, _, _, rfl, rfl, .inr ⟨by omega, by omega⟩, ?_⟩
  have b1 := hn_hd i
  have b2 := hn_hd j
  refine ⟨_, _, i + j, rfl, Int.mul_pos p.1 q.1, ?_, ?_, hQ⟩
  · have := Int.mul_le_mul p.2 q.2 (by omega) (by omega)
    omega
  · show 2 * (hn i * hd j + hn j * hd i) = (i + j) * (hd i * hd j)
    rw [Int.mul_add, ← Int.mul_assoc, ← Int.mul_assoc, b1, b2, Int.add_mul, Int.mul_assoc, Int.mul_assoc, Int.mul_comm (hd j) (hd i)]
def spMul : Sp := fun vs H Q _ => ∃ (x y : V) (i j : Int), vs = [x, y] ∧ RP H x i ∧ RP H y j ∧ j % 2 = 0 ∧ ((-(2 ^ 60) < i ∧ i < 2 ^ 60) ∨ (-(2 ^ 60) < j ∧ j < 2 ^ 60)) ∧ ∀ v H', Ex H H' → RP H' v (i * (j / 2)) → Q v H'
theorem hn_bd {k : Int} (h : -(2 ^ 60) < k ∧ k < 2 ^ 60) : -(2 ^ 64) < hn k ∧ hn k < 2 ^ 64 := by
  unfold hn
  split <;> omega
theorem sc_law_mul : FnScope ["_law_a", "_law_b"] ["_law_a", "_law_b"] (defScope (top 59)) := ⟨rfl, rfl, rfl, by decide +kernel, rfl, by decide +kernel, by decide +kernel⟩
theorem ok_law_mul (T : Tx K mg) : Cal P w K mg base 3 "_law_mul" ["_law_a", "_law_b"] [] (spMul) := by
  have c_law_frac := ok_law_frac (P := P) (w := w) (base := base) T
  obtain ⟨fd, F⟩ := T.d 28 _ rfl
  have sc := sc_law_mul
  refine ⟨_, fd, [], FunD.ok (k := 2) F sc (fun vs H Q E h => by obtain ⟨_, _, _, _, rfl, _⟩ := h; rfl) (fun cdv A outer s H vs Q E hr h => ?_), T.g "_law_mul" (by decide +kernel), F.kp, FunD.bindsN F (fun _ _ _ _ _ _ us hl => match us, hl with | [_, _], _ => rfl), .nil⟩
  refine ⟨_, PSs.nox ((pss_one (ps_ret (pe_cg c_law_frac (hr.mono (by decide)) (pa_cons (pe_op op_mul (pe_ix ix_tup (pv 0) pe_int (fun _ _ => rfl)) (pe_ix ix_tup (pv 1) pe_int (fun _ _ => rfl))) (pa_cons (pe_op op_mul (pe_ix ix_tup (pv 0) pe_int (fun _ _ => rfl)) (pe_ix ix_tup (pv 1) pe_int (fun _ _ => rfl))) pa_nil)))))), ?_⟩
  obtain ⟨x, y, i, j, rfl, ⟨a, rfl, ha⟩, ⟨b, rfl, hb⟩, he, hbd, hQ⟩ := h
  have p := hd_pos i
  have q := hd_pos j
  have b1 := hn_hd i
  have e1 : hn j = j / 2 := by unfold hn; rw [if_pos he]
  have e2 : hd j = 1 := by unfold hd; rw [if_pos he]
  refine ⟨_, rfl, a, _, _, _, rfl, rfl, SqT.of ha, atI_nat (j := 0) rfl, ?_⟩
  refine ⟨_, rfl, b, _, _, _, rfl, rfl, SqT.of hb, atI_nat (j := 0) rfl, _, _, rfl, rfl, hbd.elim (fun z => .inl (hn_bd z)) (fun z => .inr (hn_bd z)), ?_⟩
  refine ⟨_, rfl, a, _, _, _, rfl, rfl, SqT.of ha, atI_nat (j := 1) rfl, ?_⟩
  refine ⟨_, rfl, b, _, _, _, rfl, rfl, SqT.of hb, atI_nat (j := 1) rfl, _, _, rfl, rfl, .inr ⟨by omega, by omega⟩, ?_⟩
  refine ⟨_, _, i * (j / 2), rfl, Int.mul_pos p.1 q.1, ?_, ?_, hQ⟩
  · show hd i * hd j ≤ 4
    rw [e2]
    omega
  · show 2 * (hn i * hn j) = i * (j / 2) * (hd i * hd j)
    rw [e1, e2, Int.mul_one, ← Int.mul_assoc, b1, Int.mul_assoc, Int.mul_assoc, Int.mul_comm (hd i)]
/-- an instance of Ratio -/
def RR (K : PySem.W.Frag) : Rv Int := fun H v k => ∃ a dx, v = .ref a ∧ H a = some (.ins (CR K) dx [("n", .int (hn k)), ("d", .int (hd k))])
theorem mo_RR : Mo (RR K) := fun e => fun ⟨a, dx, h1, h2⟩ => ⟨a, dx, h1, e.ins _ _ _ _ h2⟩
theorem Tx.exC (T : Tx K mg) : exC K "Ratio" = true ∧ exC K "Letters" = true ∧ exC K "Symmetric" = true ∧ PySem.W.specialIn K (.builtin "object.__class__") "__get__" = some (some (.builtin "getset_descriptor.__get__")) ∧ PySem.W.takesIn K (.builtin "object.__class__") = some true ∧ emptyAt K (He.dflAt ("count_fillings", none) 0 K) = true ∧
    PySem.W.selfFirst K (He.ga K "Ratio") = true ∧ PySem.W.kitOne K (.type "tuple") (.ref (He.ga K "Symmetric")) = some false ∧ PySem.W.notFirst K (He.ga K "Symmetric") (.type "tuple") = true := by
  have e := T.e
  unfold ex at e
  obtain ⟨e1, e⟩ := He.ba e
  obtain ⟨e2, e⟩ := He.ba e
  obtain ⟨e3, e⟩ := He.ba e
  obtain ⟨e4, e⟩ := He.ba e
  obtain ⟨e5, e⟩ := He.ba e
  obtain ⟨e6, e⟩ := He.ba e
  obtain ⟨e7, e⟩ := He.ba e
  obtain ⟨e8, e⟩ := He.ba e
  obtain ⟨e9, e⟩ := He.ba e
  exact ⟨e1, e2, e3, He.eqO_ok e4, of_decide_eq_true e5, e7, e8, of_decide_eq_true e9, e⟩
theorem Tx.selfR (T : Tx K mg) : PySem.W.selfFirst K (He.ga K "Ratio") = true := T.exC.2.2.2.2.2.2.1
theorem Tx.tupS (T : Tx K mg) : PySem.W.kitOne K (.type "tuple") (.ref (He.ga K "Symmetric")) = some false := T.exC.2.2.2.2.2.2.2.1
theorem Tx.ntupS (T : Tx K mg) : PySem.W.notFirst K (He.ga K "Symmetric") (.type "tuple") = true := T.exC.2.2.2.2.2.2.2.2
structure ClsF (K : PySem.W.Frag) (x : Str) : Prop where
  cls : PySem.W.findIn K (.ref (He.ga K x)) "__class__" = some (some (.builtin "object.__class__"))
  mro : PySem.W.mroIn K (He.ga K x) (.type "object") = some true
  kit : PySem.W.kitOne K (.ref (He.ga K x)) (.ref (He.ga K x)) = some true
theorem exC_ok {x : Str} (h : FB.exC K x = true) : ClsF K x := by
  unfold FB.exC at h
  obtain ⟨e1, h⟩ := He.ba h
  obtain ⟨e2, e3⟩ := He.ba h
  exact ⟨He.eqO_ok e1, of_decide_eq_true e2, of_decide_eq_true e3⟩
theorem Tx.fR (T : Tx K mg) : ClsF K "Ratio" := exC_ok T.exC.1
theorem Tx.fL (T : Tx K mg) : ClsF K "Letters" := exC_ok T.exC.2.1
theorem Tx.fS (T : Tx K mg) : ClsF K "Symmetric" := exC_ok T.exC.2.2.1
theorem Tx.cR (T : Tx K mg) : Cls K (He.ga K "Ratio") := He.cls_ok (T.a 0 (.cls "Ratio") rfl)
theorem Tx.cL (T : Tx K mg) : Cls K (He.ga K "Letters") := He.cls_ok (T.a 4 (.cls "Letters") rfl)
theorem Tx.cS (T : Tx K mg) : Cls K (He.ga K "Symmetric") := He.cls_ok (T.a 8 (.cls "Symmetric") rfl)
theorem Tx.nRn (T : Tx K mg) : NoAttr K (He.ga K "Ratio") "n" := He.noat_ok (T.a 1 (.noat "Ratio" "n") rfl)
theorem Tx.nRd (T : Tx K mg) : NoAttr K (He.ga K "Ratio") "d" := He.noat_ok (T.a 2 (.noat "Ratio" "d") rfl)
theorem Tx.nLn (T : Tx K mg) : NoAttr K (He.ga K "Letters") "n" := He.noat_ok (T.a 5 (.noat "Letters" "n") rfl)
theorem Tx.nLt (T : Tx K mg) : NoAttr K (He.ga K "Letters") "terms" := He.noat_ok (T.a 6 (.noat "Letters" "terms") rfl)
theorem Tx.nSb (T : Tx K mg) : NoAttr K (He.ga K "Symmetric") "base" := He.noat_ok (T.a 9 (.noat "Symmetric" "base") rfl)
theorem Tx.nSt (T : Tx K mg) : NoAttr K (He.ga K "Symmetric") "terms" := He.noat_ok (T.a 10 (.noat "Symmetric" "terms") rfl)
theorem ty_own {x : Str} {H : Hp} {a dx : Addr} {fs : List (Str × V)} (T : Tx K mg) (c : Cls K (He.ga K x)) (f : ClsF K x) (h : H a = some (.ins (He.ga K x) dx fs)) : TyX K H (.ref a) (.ref (He.ga K x)) :=
  .base (.ins h c f.cls T.exC.2.2.2.1 T.exC.2.2.2.2.1 f.mro)
/-- behind the making of an instance -/
theorem mk_ex {H H2 : Hp} {x dx : Addr} {o o' : HO} (hx : H x = none) (hdx : H dx = none) (e : ExS [x] (upd (upd H dx o) x o') H2) : Ex H H2 := fun a u h => by
  have n1 : a ≠ x := ne_of_none h hx
  have n2 : a ≠ dx := ne_of_none h hdx
  exact e a u (fun z => n1 (List.mem_singleton.mp z)) (by rw [upd_ne n1, upd_ne n2]; exact h)
def spRinit (C : Addr) : Sp := fun vs H Q _ => ∃ (x dx : Addr) (n d k : Int), vs = [.ref x, .int n, .int d] ∧ H x = some (.ins C dx []) ∧ 0 < d ∧ d ≤ 4 ∧ 2 * n = k * d ∧ ∀ H', ExS [x] H H' → H' x = some (.ins C dx [("n", .int (hn k)), ("d", .int (hd k))]) → Q .non H'
theorem sc_Ratio_init : FnScope ["self", "n", "d", "common"] ["self", "n", "d"] (defScope (inClass (top 11) 0)) := ⟨rfl, rfl, rfl, by decide +kernel, rfl, by decide +kernel, by decide +kernel⟩
theorem ok_Ratio_init (T : Tx K mg) : CalI P w K mg base 1 "Ratio" ["self", "n", "d"] [] (spRinit (He.ga K "Ratio")) := by
  obtain ⟨fd, F⟩ := T.d 47 _ rfl
  have sc := sc_Ratio_init
  obtain ⟨us, dsv, bd⟩ := FunD.binds1 (ps := ["self", "n", "d"]) F 3 1 (by intro z; cases z) rfl (fun _ _ _ _ _ _ _ us its h1 h2 => match us, its, h1, h2 with | [_, _, _], [_], _, _ => ⟨_, rfl, rfl⟩)
  refine ⟨_, fd, _, FunD.ok (k := 0) F sc (fun vs H Q E h => by obtain ⟨_, _, _, _, _, rfl, _⟩ := h; rfl) (fun cdv A outer s H vs Q E hr h => ?_), T.g "Ratio" (by decide +kernel), He.mkr_ok (T.a 3 (.mkr "Ratio") rfl), bd, dsv⟩
  refine ⟨_, PSs.nox ((pss_cons (ps_if (pt_cmpR op_eq (pv 2) pe_int (nomark _))
  (pss_one ps_never) pss_nil)
  (pss_cons (ps_set (i := 3) sc.nd rfl (Or.inl rfl) (pe_ifExp (pt_cmpR op_gt (pv 2) pe_int (nomark _)) (pe_callBfun cr_gcd rfl T.gcd (pa_cons (pv 1) (pa_cons (pv 2) pa_nil))) (pe_un un_neg (pe_callBfun cr_gcd rfl T.gcd (pa_cons (pv 1) (pa_cons (pv 2) pa_nil))))))
  (pss_cons (ps_fld (pv 0) (pe_op op_fdiv (pv 1) (pv 3)) rfl)
  (pss_one (ps_fld (pv 0) (pe_op op_fdiv (pv 2) (pv 3)) rfl)))))), ?_⟩
  obtain ⟨x, dx, n, d, k, rfl, hx, h1, h2, h3, hQ⟩ := h
  obtain ⟨g1, g2, g3, g4⟩ := half_of h1 h2 h3
  refine ⟨_, rfl, rfl, _, rfl, ifF (eqI_f (by omega)) ?_⟩
  refine ⟨_, rfl, _, _, rfl, rfl, _, rfl, ifT (decide_eq_true h1) ⟨_, rfl, _, rfl, n, d, rfl, ?_⟩⟩
  refine ⟨_, rfl, _, rfl, _, _, rfl, rfl, ⟨g3, g4⟩, _, rfl, x, _, dx, _, rfl, hx, T.cR, T.nRn, by decide, ?_⟩
  refine ⟨_, rfl, _, rfl, _, _, rfl, rfl, ⟨g3, g4⟩, _, rfl, x, _, dx, _, rfl, upd_same, T.cR, T.nRd, by show 1 < 1000; decide, ?_⟩
  refine hQ _ (exs_upd.trS exs_upd) ?_
  rw [upd_same, ← g1, ← g2]
  rfl
theorem ok_Ratio_init1 (T : Tx K mg) : CalI P w K mg base 1 "Ratio" ["self", "n", "d"] [.int 1] (spRinit (He.ga K "Ratio")) := by
  obtain ⟨fd, F⟩ := T.d 47 _ rfl
  have sc := sc_Ratio_init
  obtain ⟨us, dsv, bd⟩ := FunD.binds1 (ps := ["self", "n", "d"]) F 2 0 (by intro z; cases z) rfl (fun _ _ _ _ _ _ _ us its h1 h2 => match us, its, h1, h2 with | [_, _], [_], _, _ => ⟨_, rfl, rfl⟩)
  refine ⟨_, fd, _, FunD.ok (k := 0) F sc (fun vs H Q E h => by obtain ⟨_, _, _, _, _, rfl, _⟩ := h; rfl) (fun cdv A outer s H vs Q E hr h => ?_), T.g "Ratio" (by decide +kernel), He.mkr_ok (T.a 3 (.mkr "Ratio") rfl), bd, dsv⟩
  refine ⟨_, PSs.nox ((pss_cons (ps_if (pt_cmpR op_eq (pv 2) pe_int (nomark _))
  (pss_one ps_never) pss_nil)
  (pss_cons (ps_set (i := 3) sc.nd rfl (Or.inl rfl) (pe_ifExp (pt_cmpR op_gt (pv 2) pe_int (nomark _)) (pe_callBfun cr_gcd rfl T.gcd (pa_cons (pv 1) (pa_cons (pv 2) pa_nil))) (pe_un un_neg (pe_callBfun cr_gcd rfl T.gcd (pa_cons (pv 1) (pa_cons (pv 2) pa_nil))))))
  (pss_cons (ps_fld (pv 0) (pe_op op_fdiv (pv 1) (pv 3)) rfl)
  (pss_one (ps_fld (pv 0) (pe_op op_fdiv (pv 2) (pv 3)) rfl)))))), ?_⟩
  obtain ⟨x, dx, n, d, k, rfl, hx, h1, h2, h3, hQ⟩ := h
  obtain ⟨g1, g2, g3, g4⟩ := half_of h1 h2 h3
  refine ⟨_, rfl, rfl, _, rfl, ifF (eqI_f (by omega)) ?_⟩
  refine ⟨_, rfl, _, _, rfl, rfl, _, rfl, ifT (decide_eq_true h1) ⟨_, rfl, _, rfl, n, d, rfl, ?_⟩⟩
  refine ⟨_, rfl, _, rfl, _, _, rfl, rfl, ⟨g3, g4⟩, _, rfl, x, _, dx, _, rfl, hx, T.cR, T.nRn, by decide, ?_⟩
  refine ⟨_, rfl, _, rfl, _, _, rfl, rfl, ⟨g3, g4⟩, _, rfl, x, _, dx, _, rfl, upd_same, T.cR, T.nRd, by show 1 < 1000; decide, ?_⟩
  refine hQ _ (exs_upd.trS exs_upd) ?_
  rw [upd_same, ← g1, ← g2]
  rfl
/-- behind the making of an instance by an __init__ of such a promise -/
theorem ratio_made {H1 : Hp} {Q : VK} {x dx : Addr} {n d k : Int} (hx : H1 x = none) (hdx : H1 dx = none) (h1 : 0 < d) (h2 : d ≤ 4) (h3 : 2 * n = k * d) (q : ∀ v H', Ex H1 H' → RR K H' v k → Q v H') :
    spRinit (He.ga K "Ratio") [.ref x, .int n, .int d] (upd (upd H1 dx (.own x)) x (.ins (He.ga K "Ratio") dx [])) (fun v H2 => v = .non ∧ Q (.ref x) H2) E0 :=
  ⟨x, dx, n, d, k, rfl, upd_same, h1, h2, h3, fun H' e h => ⟨rfl, q _ _ (mk_ex hx hdx e) ⟨x, dx, rfl, h⟩⟩⟩
def spRadd (K : PySem.W.Frag) : Sp := fun vs H Q _ => ∃ (x y : V) (i j : Int), vs = [x, y] ∧ RR K H x i ∧ RR K H y j ∧ ∀ v H', Ex H H' → RR K H' v (i + j) → Q v H'
theorem sc_Ratio_add : FnScope ["self", "other"] ["self", "other"] (defScope (inClass (top 11) 1)) := ⟨rfl, rfl, rfl, by decide +kernel, rfl, by decide +kernel, by decide +kernel⟩
theorem ok_Ratio_add (T : Tx K mg) : CalM P w K mg base 3 (He.ga K "Ratio") "__add__" ["self", "other"] [] (spRadd K) := by
  have c_Ratio := ok_Ratio_init (P := P) (w := w) (base := base) T
  obtain ⟨fd, F⟩ := T.d 48 _ rfl
  have sc := sc_Ratio_add
  refine ⟨_, fd, [], FunD.ok (k := 2) F sc (fun vs H Q E h => by obtain ⟨_, _, _, _, rfl, _⟩ := h; rfl) (fun cdv A outer s H vs Q E hr h => ?_), He.meth_ok (T.a 12 (.meth "Ratio" "__add__") rfl), FunD.bindsN F (fun _ _ _ _ _ _ us hl => match us, hl with | [_, _], _ => rfl), .nil⟩
  refine ⟨_, PSs.nox ((pss_one (ps_ret (pe_mk c_Ratio (hr.mono (by decide)) (pa_cons (pe_op op_add (pe_op op_mul (pe_fld (pv 0) rfl) (pe_fld (pv 1) rfl)) (pe_op op_mul (pe_fld (pv 1) rfl) (pe_fld (pv 0) rfl))) (pa_cons (pe_op op_mul (pe_fld (pv 0) rfl) (pe_fld (pv 1) rfl)) pa_nil)))))), ?_⟩
  obtain ⟨x, y, i, j, rfl, ⟨a, dx, rfl, ha⟩, ⟨b, dy, rfl, hb⟩, hQ⟩ := h
  have p := hd_pos i
  have q := hd_pos j
  have b1 := hn_hd i
  have b2 := hn_hd j
  refine ⟨_, rfl, a, _, _, _, _, rfl, ha, T.cR, T.nRn, rfl, ?_⟩
  refine ⟨_, rfl, b, _, _, _, _, rfl, hb, T.cR, T.nRd, rfl, _, _, rfl, rfl, .inr ⟨by omega, by omega⟩, ?_⟩
  refine ⟨_, rfl, b, _, _, _, _, rfl, hb, T.cR, T.nRn, rfl, ?_⟩
  refine ⟨_, rfl, a, _, _, _, _, rfl, ha, T.cR, T.nRd, rfl, _, _, rfl, rfl, .inr ⟨by omega, by omega⟩, _, _, rfl, rfl, ?_⟩
  refine ⟨_, rfl, a, _, _, _, _, rfl, ha, T.cR, T.nRd, rfl, ?_⟩
  refine ⟨_, rfl, b, _, _, _, _, rfl, hb, T.cR, T.nRd, rfl, _, _, rfl, rfl, .inr ⟨by omega, by omega⟩, fun x dx hx hdx _ => ?_⟩
  refine ratio_made (k := i + j) hx hdx (Int.mul_pos p.1 q.1) ?_ ?_ hQ
  · have := Int.mul_le_mul p.2 q.2 (by omega) (by omega)
    omega
  · show 2 * (hn i * hd j + hn j * hd i) = (i + j) * (hd i * hd j)
    rw [Int.mul_add, ← Int.mul_assoc, ← Int.mul_assoc, b1, b2, Int.add_mul, Int.mul_assoc, Int.mul_assoc, Int.mul_comm (hd j) (hd i)]
def spRmul (K : PySem.W.Frag) : Sp := fun vs H Q _ => ∃ (x y : V) (i j : Int), vs = [x, y] ∧ RR K H x i ∧ RR K H y j ∧ j % 2 = 0 ∧ -(2 ^ 60) < j ∧ j < 2 ^ 60 ∧ ∀ v H', Ex H H' → RR K H' v (i * (j / 2)) → Q v H'
theorem sc_Ratio_mul : FnScope ["self", "other"] ["self", "other"] (defScope (inClass (top 11) 3)) := ⟨rfl, rfl, rfl, by decide +kernel, rfl, by decide +kernel, by decide +kernel⟩
theorem ok_Ratio_mul (T : Tx K mg) : CalM P w K mg base 3 (He.ga K "Ratio") "__mul__" ["self", "other"] [] (spRmul K) := by
  have c_Ratio := ok_Ratio_init (P := P) (w := w) (base := base) T
  obtain ⟨fd, F⟩ := T.d 49 _ rfl
  have sc := sc_Ratio_mul
  refine ⟨_, fd, [], FunD.ok (k := 2) F sc (fun vs H Q E h => by obtain ⟨_, _, _, _, rfl, _⟩ := h; rfl) (fun cdv A outer s H vs Q E hr h => ?_), He.meth_ok (T.a 13 (.meth "Ratio" "__mul__") rfl), FunD.bindsN F (fun _ _ _ _ _ _ us hl => match us, hl with | [_, _], _ => rfl), .nil⟩
  refine ⟨_, PSs.nox ((pss_one (ps_ret (pe_mk c_Ratio (hr.mono (by decide)) (pa_cons (pe_op op_mul (pe_fld (pv 0) rfl) (pe_fld (pv 1) rfl)) (pa_cons (pe_op op_mul (pe_fld (pv 0) rfl) (pe_fld (pv 1) rfl)) pa_nil)))))), ?_⟩
  obtain ⟨x, y, i, j, rfl, ⟨a, dx, rfl, ha⟩, ⟨b, dy, rfl, hb⟩, he, l1, l2, hQ⟩ := h
  have p := hd_pos i
  have q := hd_pos j
  have b1 := hn_hd i
  have e1 : hn j = j / 2 := by unfold hn; rw [if_pos he]
  have e2 : hd j = 1 := by unfold hd; rw [if_pos he]
  refine ⟨_, rfl, a, _, _, _, _, rfl, ha, T.cR, T.nRn, rfl, ?_⟩
  refine ⟨_, rfl, b, _, _, _, _, rfl, hb, T.cR, T.nRn, rfl, _, _, rfl, rfl, .inr (hn_bd ⟨l1, l2⟩), ?_⟩
  refine ⟨_, rfl, a, _, _, _, _, rfl, ha, T.cR, T.nRd, rfl, ?_⟩
  refine ⟨_, rfl, b, _, _, _, _, rfl, hb, T.cR, T.nRd, rfl, _, _, rfl, rfl, .inr ⟨by omega, by omega⟩, fun x dx hx hdx _ => ?_⟩
  refine ratio_made (k := i * (j / 2)) hx hdx (Int.mul_pos p.1 q.1) ?_ ?_ hQ
  · show hd i * hd j ≤ 4
    rw [e2]
    omega
  · show 2 * (hn i * hn j) = i * (j / 2) * (hd i * hd j)
    rw [e1, e2, Int.mul_one, ← Int.mul_assoc, b1, Int.mul_assoc, Int.mul_assoc, Int.mul_comm (hd i)]
def spRzero (K : PySem.W.Frag) : Sp := fun vs H Q _ => ∃ (x : V) (i : Int), vs = [x] ∧ RR K H x i ∧ Q (.bl (decide (i = 0))) H
theorem hn_zero (i : Int) : decide (V.int (hn i) = V.int 0) = decide (i = 0) := by
  rw [eqI]
  congr 1
  apply propext
  unfold hn
  split <;> omega
theorem sc_Ratio_is_zero : FnScope ["self"] ["self"] (defScope (inClass (top 11) 13)) := ⟨rfl, rfl, rfl, by decide +kernel, rfl, by decide +kernel, by decide +kernel⟩
theorem ok_Ratio_is_zero (T : Tx K mg) : CalM P w K mg base 1 (He.ga K "Ratio") "is_zero" ["self"] [] (spRzero K) := by
  obtain ⟨fd, F⟩ := T.d 51 _ rfl
  have sc := sc_Ratio_is_zero
  refine ⟨_, fd, [], FunD.ok (k := 0) F sc (fun vs H Q E h => by obtain ⟨_, _, rfl, _⟩ := h; rfl) (fun cdv A outer s H vs Q E hr h => ?_), He.meth_ok (T.a 15 (.meth "Ratio" "is_zero") rfl), FunD.bindsN F (fun _ _ _ _ _ _ us hl => match us, hl with | [_], _ => rfl), .nil⟩
  refine ⟨_, PSs.nox ((pss_one (ps_ret (pe_cmpR op_eq (pe_fld (pv 0) rfl) pe_int (nomark _))))), ?_⟩
  obtain ⟨x, i, rfl, ⟨a, dx, rfl, ha⟩, hQ⟩ := h
  refine ⟨_, rfl, a, _, _, _, _, rfl, ha, T.cR, T.nRn, rfl, rfl, ?_⟩
  show Q (.bl (decide (V.int (hn i) = V.int 0))) H
  rw [hn_zero]
  exact hQ
def spReq (K : PySem.W.Frag) : Sp := spEqB fun a c H b => ∃ i j, RR K H (.ref a) i ∧ RR K H (.ref c) j ∧ b = decide (i = j)
theorem sc_Ratio_eq : FnScope ["self", "other"] ["self", "other"] (defScope (inClass (top 11) 5)) := ⟨rfl, rfl, rfl, by decide +kernel, rfl, by decide +kernel, by decide +kernel⟩
theorem ok_Ratio_eq (T : Tx K mg) : CalM P w K mg base 1 (He.ga K "Ratio") "__eq__" ["self", "other"] [] (spReq K) := by
  obtain ⟨fd, F⟩ := T.d 50 _ rfl
  have sc := sc_Ratio_eq
  refine ⟨_, fd, [], FunD.ok (k := 0) F sc (fun vs H Q E h => by obtain ⟨_, _, _, rfl, _⟩ := h; rfl) (fun cdv A outer s H vs Q E hr h => ?_), He.meth_ok (T.a 14 (.meth "Ratio" "__eq__") rfl), FunD.bindsN F (fun _ _ _ _ _ _ us hl => match us, hl with | [_, _], _ => rfl), .nil⟩
  refine ⟨_, PSs.nox ((pss_one (ps_ret (pe_and (pe_callB call_isi (by rfl) (T.f "isinstance" (by decide +kernel)) (by decide +kernel) (pa_cons (pv 1) (pa_cons (pe_cls (T.g "Ratio" (by decide +kernel))) pa_nil))) (pe_and (pe_cmpR op_eq (pe_fld (pv 0) rfl) (pe_fld (pv 1) rfl) (nomark _)) (pe_one (pe_cmpR op_eq (pe_fld (pv 0) rfl) (pe_fld (pv 1) rfl) (nomark _)))))))), ?_⟩
  obtain ⟨a, c, b, rfl, ⟨i, j, ⟨a', dx, ea, ha⟩, ⟨c', dy, ec, hc⟩, eb⟩, hQ⟩ := h
  cases ea
  cases ec
  refine ⟨_, rfl, cls_of (isi_own (ty_own T T.cR T.fR hc) T.fR.kit ⟨true, rfl, iteT ?_⟩)⟩
  refine ⟨_, rfl, a, _, _, _, _, rfl, ha, T.cR, T.nRn, rfl, _, rfl, c, _, _, _, _, rfl, hc, T.cR, T.nRn, rfl, rfl, _, rfl, ?_⟩
  by_cases h1 : hn i = hn j
  · refine ifT (eqI_t h1) ?_
    refine ⟨_, rfl, a, _, _, _, _, rfl, ha, T.cR, T.nRd, rfl, _, rfl, c, _, _, _, _, rfl, hc, T.cR, T.nRd, rfl, rfl, ?_⟩
    have e : decide (V.int (hd i) = V.int (hd j)) = b := by
      rw [eb, eqI]
      by_cases h2 : hd i = hd j
      · rw [decide_eq_true h2, decide_eq_true (half_inj h1 h2)]
      · rw [decide_eq_false h2, decide_eq_false (fun z => h2 (by rw [z]))]
    show Q (.bl (decide (V.int (hd i) = V.int (hd j)))) H
    rw [e]
    exact hQ H (fun _ _ z => z)
  · refine ifF (eqI_f h1) ?_
    have e : false = b := by rw [eb, decide_eq_false (fun z => h1 (by rw [z]))]
    rw [e]
    exact hQ H (fun _ _ z => z)
def spPair (K : PySem.W.Frag) : Sp := fun vs H Q _ => ∃ (x : V) (i : Int), vs = [x] ∧ RR K H x i ∧ ∀ v H', Ex H H' → RP H' v i → Q v H'
theorem sc_law_pair : FnScope ["_law_value"] ["_law_value"] (defScope (top 60)) := ⟨rfl, rfl, rfl, by decide +kernel, rfl, by decide +kernel, by decide +kernel⟩
theorem ok_law_pair (T : Tx K mg) : Cal P w K mg base 2 "_law_pair" ["_law_value"] [] (spPair K) := by
  have c_law_gcd := ok_law_gcd (P := P) (w := w) (base := base) T
  obtain ⟨fd, F⟩ := T.d 29 _ rfl
  have sc := sc_law_pair
  refine ⟨_, fd, [], FunD.ok (k := 1) F sc (fun vs H Q E h => by obtain ⟨_, _, rfl, _⟩ := h; rfl) (fun cdv A outer s H vs Q E hr h => ?_), T.g "_law_pair" (by decide +kernel), F.kp, FunD.bindsN F (fun _ _ _ _ _ _ us hl => match us, hl with | [_], _ => rfl), .nil⟩
  refine ⟨_, PSs.nox ((pss_cons (ps_if (PW.pt (pw_or (pt_not (pt_val (pe_callB call_isi (by rfl) (T.f "isinstance" (by decide +kernel)) (by decide +kernel) (pa_cons (pv 0) (pa_cons (pe_cls (T.g "Ratio" (by decide +kernel))) pa_nil))))) (pw_or (pt_val (pe_callB call_isi (by rfl) (T.f "isinstance" (by decide +kernel)) (by decide +kernel) (pa_cons (pe_fld (pv 0) rfl) (pa_cons (pe_ty (n := "bool") (T.f "bool" (by decide +kernel))) pa_nil)))) (pw_or1 (pt_val (pe_callB call_isi (by rfl) (T.f "isinstance" (by decide +kernel)) (by decide +kernel) (pa_cons (pe_fld (pv 0) rfl) (pa_cons (pe_ty (n := "bool") (T.f "bool" (by decide +kernel))) pa_nil))))))))
  (pss_one (ps_ret pe_non)) pss_nil)
  (pss_cons (ps_if (PW.pt (pw_or (pt_not (pt_val (pe_callB call_isi (by rfl) (T.f "isinstance" (by decide +kernel)) (by decide +kernel) (pa_cons (pe_fld (pv 0) rfl) (pa_cons (pe_ty (n := "int") (T.f "int" (by decide +kernel))) pa_nil))))) (pw_or (pt_not (pt_val (pe_callB call_isi (by rfl) (T.f "isinstance" (by decide +kernel)) (by decide +kernel) (pa_cons (pe_fld (pv 0) rfl) (pa_cons (pe_ty (n := "int") (T.f "int" (by decide +kernel))) pa_nil))))) (pw_or (pt_cmpR op_lt (pe_fld (pv 0) rfl) pe_int (nomark _)) (pw_or1 (pt_cmpR op_ne (pe_cg c_law_gcd (hr.mono (by decide)) (pa_cons (pe_fld (pv 0) rfl) (pa_cons (pe_fld (pv 0) rfl) pa_nil))) pe_int (nomark _)))))))
  (pss_one (ps_ret pe_non)) pss_nil)
  (pss_one (ps_ret (pe_tup (pa_cons (pe_fld (pv 0) rfl) (pa_cons (pe_fld (pv 0) rfl) pa_nil)))))))), ?_⟩
  obtain ⟨x, i, rfl, ⟨a, dx, rfl, ha⟩, hQ⟩ := h
  have p := hd_pos i
  refine ⟨_, rfl, cls_of (isi_own (ty_own T T.cR T.fR ha) T.fR.kit ⟨true, rfl, ifF rfl ?_⟩)⟩
  refine ⟨_, rfl, a, _, _, _, _, rfl, ha, T.cR, T.nRn, rfl, cls_of (isi_ty (.base (.int _)) (by decide +kernel) ⟨false, rfl, iteF ?_⟩)⟩
  refine ⟨_, rfl, a, _, _, _, _, rfl, ha, T.cR, T.nRd, rfl, cls_of (isi_ty (.base (.int _)) (by decide +kernel) ⟨false, rfl, iteF ?_⟩)⟩
  refine ⟨_, rfl, a, _, _, _, _, rfl, ha, T.cR, T.nRn, rfl, cls_of (isi_ty (.base (.int _)) (by decide +kernel) ⟨true, rfl, ifF rfl ?_⟩)⟩
  refine ⟨_, rfl, a, _, _, _, _, rfl, ha, T.cR, T.nRd, rfl, cls_of (isi_ty (.base (.int _)) (by decide +kernel) ⟨true, rfl, ifF rfl ?_⟩)⟩
  refine ⟨_, rfl, a, _, _, _, _, rfl, ha, T.cR, T.nRd, rfl, _, _, rfl, rfl, _, rfl, ifF (decide_eq_false (by omega)) ?_⟩
  refine ⟨_, rfl, a, _, _, _, _, rfl, ha, T.cR, T.nRn, rfl, _, rfl, a, _, _, _, _, rfl, ha, T.cR, T.nRd, rfl, _, _, rfl, ?_⟩
  rw [gcd_half]
  refine ⟨rfl, _, rfl, ifF rfl ?_⟩
  refine ⟨_, rfl, a, _, _, _, _, rfl, ha, T.cR, T.nRn, rfl, _, rfl, a, _, _, _, _, rfl, ha, T.cR, T.nRd, rfl, t2, fun t ht => ?_⟩
  exact hQ _ _ (.nw ht) ⟨t, rfl, upd_same⟩
def spRatioOf (K : PySem.W.Frag) : Sp := fun vs H Q _ => ∃ (x : V) (i : Int), vs = [x] ∧ RP H x i ∧ ∀ v H', Ex H H' → RR K H' v i → Q v H'
theorem sc_law_ratio : FnScope ["_law_q"] ["_law_q"] (defScope (top 62)) := ⟨rfl, rfl, rfl, by decide +kernel, rfl, by decide +kernel, by decide +kernel⟩
theorem ok_law_ratio (T : Tx K mg) : Cal P w K mg base 3 "_law_ratio" ["_law_q"] [] (spRatioOf K) := by
  have c_Ratio := ok_Ratio_init (P := P) (w := w) (base := base) T
  obtain ⟨fd, F⟩ := T.d 31 _ rfl
  have sc := sc_law_ratio
  refine ⟨_, fd, [], FunD.ok (k := 2) F sc (fun vs H Q E h => by obtain ⟨_, _, rfl, _⟩ := h; rfl) (fun cdv A outer s H vs Q E hr h => ?_), T.g "_law_ratio" (by decide +kernel), F.kp, FunD.bindsN F (fun _ _ _ _ _ _ us hl => match us, hl with | [_], _ => rfl), .nil⟩
  refine ⟨_, PSs.nox ((pss_one (ps_ret (pe_mk c_Ratio (hr.mono (by decide)) (pa_cons (pe_ix ix_tup (pv 0) pe_int (fun _ _ => rfl)) (pa_cons (pe_ix ix_tup (pv 0) pe_int (fun _ _ => rfl)) pa_nil)))))), ?_⟩
  obtain ⟨x, i, rfl, ⟨a, rfl, ha⟩, hQ⟩ := h
  have p := hd_pos i
  refine ⟨_, rfl, a, _, _, _, rfl, rfl, SqT.of ha, atI_nat (j := 0) rfl, ?_⟩
  refine ⟨_, rfl, a, _, _, _, rfl, rfl, SqT.of ha, atI_nat (j := 1) rfl, fun x dx hx hdx _ => ?_⟩
  exact ratio_made (k := i) hx hdx p.1 (by omega) (hn_hd i) hQ
def spItem : Sp := fun vs H Q _ => ∃ (l : Addr), vs = [.ref l] ∧ St2 H l ∧ ∀ v k H', ExS [l] H H' → St2 H' l → -4 ≤ k → k ≤ 4 → RP H' v k → Q v H'
theorem sc_law_item : FnScope ["_law_state_here"] ["_law_state_here"] (defScope (top 61)) := ⟨rfl, rfl, rfl, by decide +kernel, rfl, by decide +kernel, by decide +kernel⟩
theorem ok_law_item (T : Tx K mg) : Cal P w K mg base 3 "_law_item" ["_law_state_here"] [] (spItem) := by
  have c_law_take := ok_law_take (P := P) (w := w) (base := base) T
  have c_law_frac := ok_law_frac (P := P) (w := w) (base := base) T
  obtain ⟨fd, F⟩ := T.d 30 _ rfl
  have sc := sc_law_item
  refine ⟨_, fd, [], FunD.ok (k := 2) F sc (fun vs H Q E h => by obtain ⟨_, rfl, _⟩ := h; rfl) (fun cdv A outer s H vs Q E hr h => ?_), T.g "_law_item" (by decide +kernel), F.kp, FunD.bindsN F (fun _ _ _ _ _ _ us hl => match us, hl with | [_], _ => rfl), .nil⟩
  refine ⟨_, PSs.nox ((pss_one (ps_ret (pe_cg c_law_frac (hr.mono (by decide)) (pa_cons (pe_op op_sub (pe_cg c_law_take (hr.mono (by decide)) (pa_cons (pv 0) (pa_cons pe_int pa_nil))) pe_int) (pa_cons (pe_op op_add pe_int (pe_callTy call_int1 (by rfl) (T.f "int" (by decide +kernel)) (by decide +kernel) (pa_cons (pe_cmpR op_eq (pe_cg c_law_take (hr.mono (by decide)) (pa_cons (pv 0) (pa_cons pe_int pa_nil))) pe_int (nomark _)) pa_nil))) pa_nil)))))), ?_⟩
  obtain ⟨l, rfl, hl, hQ⟩ := h
  refine ⟨_, rfl, l, 5, rfl, hl, by omega, by omega, fun r H1 e1 h1 r0 r1 => ?_⟩
  refine ⟨_, _, rfl, rfl, _, rfl, l, 5, rfl, h1, by omega, by omega, fun q H2 e2 h2 q0 q1 => ?_⟩
  refine ⟨rfl, .inr ⟨_, rfl, _, _, rfl, rfl, ?_⟩⟩
  rw [eqI]
  by_cases z : q = 0
  · rw [decide_eq_true z]
    refine ⟨_, _, r - 2, rfl, by show (0 : Int) < 1 + 1; decide, by show (1 : Int) + 1 ≤ 4; decide, by show 2 * (r - 2) = (r - 2) * (1 + 1); omega, fun v H3 e3 h3 => ?_⟩
    exact hQ _ _ _ (e1.trS (e2.tr e3)) (st2_ex h2 e3) (by omega) (by omega) h3
  · rw [decide_eq_false z]
    refine ⟨_, _, (r - 2) * 2, rfl, by show (0 : Int) < 1 + 0; decide, by show (1 : Int) + 0 ≤ 4; decide, by show 2 * (r - 2) = (r - 2) * 2 * (1 + 0); omega, fun v H3 e3 h3 => ?_⟩
    exact hQ _ _ _ (e1.trS (e2.tr e3)) (st2_ex h2 e3) (by omega) (by omega) h3
end
end FB
namespace FB
open PySem PySem.Spec PyProof.Rows L2 SF FR
/-- a dict whose keys are tuples of whole numbers -/
def Dt {α : Type} (R : Rv α) (H : Hp) (a : Addr) (T : List (Pt × α)) : Prop := ∃ kvs, H a = some (.dT kvs) ∧ TabV R H kvs T
/-- a new one -/
def NewD {α : Type} (R : Rv α) (H H' : Hp) (v : V) (T : List (Pt × α)) : Prop := ∃ d, v = .ref d ∧ H d = none ∧ Dt R H' d T
/-- D holds the dict that is being made -/
structure Bd {α : Type} (R : Rv α) (S : List Addr) (H0 : Hp) (D : Addr) (T : List (Pt × α)) (H : Hp) : Prop where
  ex : ExS S H0 H
  nw : H0 D = none
  tab : Dt R H D T
section
variable {α : Type} {R : Rv α} {S : List Addr} {H0 H H' H1 : Hp} {D a : Addr} {T : List (Pt × α)} {v y : V} {x : α} {e : Pt}
theorem Dt.mo (m : Mo R) (h : Dt R H a T) (e : Ex H H') : Dt R H' a T := by
  obtain ⟨kvs, h1, h2⟩ := h
  exact ⟨kvs, e _ _ h1, h2.mo m (.of e)⟩
theorem dt_imm (h : Dt R H D T) (e : ExS [D] H H') : Imm H H' := by
  obtain ⟨us, h1, _⟩ := h
  have ne : ∀ a o, H a = some o → (∀ z, o ≠ .dT z) → a ∉ [D] := fun a o ha n z => by
    rw [List.mem_singleton.mp z, h1] at ha
    exact n us (Option.some.inj ha).symm
  exact ⟨fun a ys h => e a _ (ne a _ h (fun z q => by cases q)) h, fun a C dx fs h => e a _ (ne a _ h (fun z q => by cases q)) h⟩
theorem exs_tr {D : Addr} (e : ExS S H0 H) (nw : H0 D = none) (f : ExS [D] H H') : ExS S H0 H' := fun a o n h =>
  f a o (fun z => ne_of_none h nw (List.mem_singleton.mp z)) (e a o n h)
theorem Bd.new (hD : H0 D = none) : Bd R S H0 D ([] : List (Pt × α)) (upd H0 D (.dT [])) := ⟨.of (.nw hD), hD, [], upd_same, .nil⟩
theorem Bd.grow (m : Mo R) (b : Bd R S H0 D T H) (e : Ex H H') : Bd R S H0 D T H' := ⟨b.ex.tr e, b.nw, b.tab.mo m e⟩
theorem Bd.step {T' : List (Pt × α)} (b : Bd R S H0 D T H) (e : ExS [D] H H') (t : Dt R H' D T') : Bd R S H0 D T' H' := ⟨exs_tr b.ex b.nw e, b.nw, t⟩
theorem Bd.imm (b : Bd R S H0 D T H) (e : ExS [D] H H') : Imm H H' := dt_imm b.tab e
theorem Bd.newD (b : Bd R [] H0 D T H) : NewD R H0 H (.ref D) T := ⟨D, rfl, b.nw, b.tab⟩
/-- d[e] = v -/
theorem dt_put (m : Mo R) (h : Dt R H D T) (hl : T.length < 100000) (ry : RT H y e) (rv : R H v x) : ∃ H', DPut H D y v H' ∧ ExS [D] H H' ∧ Dt R H' D (SF.put T e x) := by
  obtain ⟨kvs, h1, h2⟩ := h
  obtain ⟨b, rfl, hb⟩ := ry
  have im : Imm H (upd H D (.dT (putK kvs (KI e) v))) := .dT h1
  exact ⟨_, DPut.t h1 (k := KI e) (by rw [KI_kV]; exact hb) (by rw [h2.len]; exact line_lt (Nat.le_of_lt hl)), exs_upd, _, upd_same, (h2.put rv).mo m im⟩
/-- d[e], d.get(e, ..) -/
theorem dt_get (h : Dt R H D T) (ry : RT H y e) : ∃ o, DGet H D y o ∧ ((o = none ∧ SF.get T e = none) ∨ ∃ v x, o = some v ∧ SF.get T e = some x ∧ R H v x) := by
  obtain ⟨kvs, h1, h2⟩ := h
  obtain ⟨b, rfl, hb⟩ := ry
  refine ⟨_, DGet.t h1 (k := KI e) (by rw [KI_kV]; exact hb), ?_⟩
  exact h2.get e
theorem Dt.tyV {K : PySem.W.Frag} (h : Dt R H D T) : tyV K "dict" (.ref D) H := by
  obtain ⟨kvs, h1, _⟩ := h
  exact .inr (.inr (.inl ⟨rfl, .inr ⟨kvs, h1⟩⟩))
theorem Dt.isD (h : Dt R H D T) : IsD H D := by
  obtain ⟨kvs, h1, _⟩ := h
  exact .inr ⟨kvs, .inl h1⟩
/-- of a locked one -/
theorem fz_get {o : Obj} {kvs : List (List Key × V)} (h : H D = some (.frz o (.dT kvs))) (h2 : TabV R H kvs T) (ry : RT H y e) : ∃ o, DGet H D y o ∧ ((o = none ∧ SF.get T e = none) ∨ ∃ v x, o = some v ∧ SF.get T e = some x ∧ R H v x) := by
  obtain ⟨b, rfl, hb⟩ := ry
  refine ⟨_, DGet.r (k := KI e) (.inr ⟨o, h⟩) (by rw [KI_kV]; exact hb), ?_⟩
  exact h2.get e
theorem drop_none (h : SF.get T e = none) : SF.drop T e = T := by
  unfold SF.drop
  refine List.filter_eq_self.mpr fun kv hk => ?_
  unfold SF.get at h
  rw [Option.map_eq_none_iff, List.find?_eq_none] at h
  have := h kv hk
  simpa using this
theorem drop_some (m : Mo R) (h : Dt R H D T) (ry : RT H y e) {Q : VK} {d : V} (q1 : ∀ v H', ExS [D] H H' → Dt R H' D (SF.drop T e) → Q v H') : DX.rPopT (.ref D) [y, d] H Q := by
  obtain ⟨kvs, h1, h2⟩ := h
  obtain ⟨b, rfl, hb⟩ := ry
  have im : Imm H (upd H D (.dT (dropK kvs (KI e)))) := .dT h1
  refine ⟨D, kvs, KI e, b, d, rfl, rfl, h1, by rw [KI_kV]; exact hb, fun v _ => q1 _ _ exs_upd ⟨_, upd_same, h2.drop.mo m im⟩, fun hn => q1 _ _ .rf ⟨kvs, h1, ?_⟩⟩
  rcases h2.get e with ⟨_, g⟩ | ⟨_, _, g, _⟩
  · rw [drop_none g]; exact h2
  · rw [hn] at g; cases g
end
section
variable {X : Cx} {K : PySem.W.Frag}
theorem ix_tupK (h : X.K = K := by rfl) : IxR X (rIxT K) := h ▸ ix_tup
theorem op_catK (h : X.K = K := by rfl) : OpR X (binaryOp .Add) (rCatA K) := h ▸ op_catA
theorem isi_K (h : X.K = K := by rfl) : CallR X (.builtin "isinstance") (rIsi K) := h ▸ call_isi
theorem len_K (h : X.K = K := by rfl) : CallR X (.builtin "len") (fun xs H Q => ∃ p ys, xs = [.ref p] ∧ (SqL K H p ys ∨ SqT K H p ys) ∧ Q (.int ys.length) H) := h ▸ call_len_seq
end
theorem pi_tupK {X : Cx} {K : PySem.W.Frag} {tg l : Expr} {tl : TE} (hl : PE X l tl) (h : X.K = K := by rfl) : PI X tg l (iTup K tl) := h ▸ pi_tup hl
theorem tupOf_K {X : Cx} {K : PySem.W.Frag} (h : X.K = K := by rfl) : CallR X (.type "tuple") (fun xs H Q => ∃ p ys, xs = [.ref p] ∧ ((SqL K H p ys ∧ ∀ l, H l = none → Q (.ref l) (upd H l (.tup ys))) ∨ (SqT K H p ys ∧ Q (.ref p) H))) := h ▸ call_tuple_of
theorem eqD_K {X : Cx} {K : PySem.W.Frag} (hu : X.A.units + 64 < cLine) (h : X.K = K := by rfl) : OpR X (compareOp .Eq) (rEqD K) := h ▸ op_eqD hu
theorem srtU_K {X : Cx} {K : PySem.W.Frag} {b : Bool} (h : X.K = K := by rfl) : CallRK X (.builtin "sorted") [Str.ofString "reverse"] (rSortU K b) := h ▸ cr_sortedU
theorem sumU_K {X : Cx} {K : PySem.W.Frag} (hc : X.calm = true) (h : X.K = K := by rfl) : CallR X (.builtin "sum") (rSumU K) := h ▸ cr_sumU hc
theorem pg_tupK {X : Cx} {K : PySem.W.Frag} {es : List Expr} {k : Nat} {pos : Pos} {t : TGs} {n : Nat} (hc : X.calm = true) (h : PGs X es t) (hK : X.K = K := by rfl)
    (hn : (assignEach es X.env).length = n := by rfl) (hst : (assignEach es X.env).findIdx? (·.1) = none := by rfl) : PG X (.Tuple es k pos) (gTup K n t) := hK ▸ pg_tup hc h hn hst
theorem yes_of {σ : L2.St} {H : Hp} {Q : Bool → Hp → Prop} (h : Q true H) : tYes σ H Q := h
/-! ### copies -/
def hT (ns : Pt) : Int := reduceHash (Builtin.Tuple.tupleHashOf (ns.map hashInt))
theorem hash_KI (prog : Program) (w : World) (ns : Pt) : (tupleKind (mixKind prog w)).hash (KI ns) = hT ns := by
  show tupleKeyHash (mixKind prog w) (KI ns) = hT ns
  unfold tupleKeyHash hT KI
  rw [List.map_map]
  rfl
theorem uni_hash : (uni.map hT).Nodup := by decide +kernel
def OkK {α : Type} (T : List (Pt × α)) : Prop := (T.map (·.1)).Nodup ∧ ∀ k ∈ T.map (·.1), k ∈ uni
theorem nodup_map_sub {α β : Type} (f : α → β) : ∀ (l u : List α), l.Nodup → (∀ x ∈ l, x ∈ u) → (u.map f).Nodup → (l.map f).Nodup := by
  intro l u hl hs hu
  have inj : ∀ x ∈ u, ∀ y ∈ u, f x = f y → x = y := by
    clear hs hl
    induction u with
    | nil => intro x hx; cases hx
    | cons a u ih =>
      rw [List.map_cons, List.nodup_cons] at hu
      intro x hx y hy e
      rcases List.mem_cons.mp hx with ex | hx2
      · rcases List.mem_cons.mp hy with ey | hy2
        · rw [ex, ey]
        · exact (hu.1 (List.mem_map.mpr ⟨y, hy2, by rw [← e, ex]⟩)).elim
      · rcases List.mem_cons.mp hy with ey | hy2
        · exact (hu.1 (List.mem_map.mpr ⟨x, hx2, by rw [e, ey]⟩)).elim
        · exact ih hu.2 x hx2 y hy2 e
  induction l with
  | nil => exact List.nodup_nil
  | cons a l ih =>
    obtain ⟨h1, h2⟩ := List.nodup_cons.mp hl
    rw [List.map_cons, List.nodup_cons]
    refine ⟨fun m => ?_, ih h2 fun x hx => hs x (List.mem_cons_of_mem _ hx)⟩
    obtain ⟨y, hy, e⟩ := List.mem_map.mp m
    have := inj y (hs y (List.mem_cons_of_mem _ hy)) a (hs a (List.mem_cons_self ..)) e
    exact h1 (by rw [← this]; exact hy)
theorem apart_of {α : Type} {R : Rv α} {H : Hp} {kvs : List (List Key × V)} {T : List (Pt × α)} (t : TabV R H kvs T) (h : OkK T) : Apart (kvs.map (·.1)) := fun prog w => by
  rw [t.keys, List.map_map]
  have e : ((tupleKind (mixKind prog w)).hash ∘ KI) = hT := funext fun ns => hash_KI prog w ns
  rw [e]
  exact nodup_map_sub hT _ uni h.1 h.2 uni_hash
/-- a pair, by its parts -/
def RPr {α β : Type} (R1 : Rv α) (R2 : Rv β) : Rv (α × β) := fun H v q => ∃ t x y, v = .ref t ∧ H t = some (.tup [x, y]) ∧ R1 H x q.1 ∧ R2 H y q.2
theorem mo_RPr {α β : Type} {R1 : Rv α} {R2 : Rv β} (m1 : Mo R1) (m2 : Mo R2) : Mo (RPr R1 R2) := fun e => fun ⟨t, x, y, h1, h2, h3, h4⟩ => ⟨t, x, y, h1, e.tup _ _ h2, m1 e h3, m2 e h4⟩
theorem range_flat {α : Type} (F : Nat → List α) (i : Nat) : (List.range (i + 1)).flatMap F = (List.range i).flatMap F ++ F i := by
  rw [List.range_succ, List.flatMap_append]
  simp
theorem foldl_snoc {α β : Type} (f : α → β) : ∀ (xs : List α) (s : List β), xs.foldl (fun s r => s ++ [f r]) s = s ++ xs.map f
  | [], s => by simp
  | x :: xs, s => by rw [List.foldl_cons, foldl_snoc f xs, List.map_cons, List.append_assoc]; rfl
end FB
namespace FB
open PySem PySem.Spec PyProof.Rows L2 SF FR
section
variable {P : Program} {w : World} {K : PySem.W.Frag} {mg : Str → Option Value} {base : Heap}
theorem RP.mk {H : Hp} {t : Addr} {k : Int} (h : H t = some (.tup [.int (hn k), .int (hd k)])) : RP H (.ref t) k := ⟨t, rfl, h⟩
def spPlus : Sp := fun vs H Q _ => ∃ (a : Addr) (y c : V) (T : Tb) (e : Pt) (k : Int), vs = [.ref a, y, c] ∧ Dt RP H a T ∧ RT H y e ∧ RP H c k ∧ T.length < 100000 ∧ ∀ H', ExS [a] H H' → Dt RP H' a (plus T e k) → Q .non H'
theorem sc_law_plus : FnScope ["_law_table_here", "_law_exponent", "_law_c", "_law_total"] ["_law_table_here", "_law_exponent", "_law_c"] (defScope (top 64)) := ⟨rfl, rfl, rfl, by decide +kernel, rfl, by decide +kernel, by decide +kernel⟩
theorem ok_law_plus (T : Tx K mg) : Cal P w K mg base 4 "_law_plus" ["_law_table_here", "_law_exponent", "_law_c"] [] (spPlus) := by
  have c_law_add := ok_law_add (P := P) (w := w) (base := base) T
  obtain ⟨fd, F⟩ := T.d 33 _ rfl
  have sc := sc_law_plus
  refine ⟨_, fd, [], FunD.ok (k := 3) F sc (fun vs H Q E h => by obtain ⟨_, _, _, _, _, _, rfl, _⟩ := h; rfl) (fun cdv A outer s H vs Q E hr h => ?_), T.g "_law_plus" (by decide +kernel), F.kp, FunD.bindsN F (fun _ _ _ _ _ _ us hl => match us, hl with | [_, _, _], _ => rfl), .nil⟩
  refine ⟨_, PSs.nox ((pss_cons (ps_set (i := 3) sc.nd rfl (Or.inl rfl) (pe_cg c_law_add (hr.mono (by decide)) (pa_cons (pe_dget2 (hu_of hr) (pv 0) (pv 1) (pe_tup (pa_cons pe_int (pa_cons pe_int pa_nil))) ⟨rfl, rfl, rfl, rfl⟩) (pa_cons (pv 2) pa_nil))))
  (pss_one (ps_if (pt_cmpR op_eq (pe_ix ix_tup (pv 3) pe_int (fun _ _ => rfl)) pe_int (nomark _))
  (pss_one (ps_expr (pe_bm PySem.F.plainAttrs_dict PySem.F.slot_dict_pop PySem.F.type_dict_pop (DX.mt_popT (hu_of hr)) (pv 0) (pa_cons (pv 1) (pa_cons pe_non pa_nil))))) (pss_one (ps_dput (hu_of hr) (pv 0) (pv 1) (pv 3) rfl)))))), ?_⟩
  obtain ⟨a, y, c, T', e, k, rfl, ht, hy, hc, hl, hQ⟩ := h
  refine ⟨_, rfl, a, rfl, ht.isD, _, rfl, t2, fun p hp => ?_⟩
  have e1 : Ex H (upd H p (.tup [.int 0, .int 1])) := .nw hp
  obtain ⟨o, g, ho⟩ := dt_get (ht.mo mo_RP e1) (mo_RT (.of e1) hy)
  refine ⟨o, g, _, rfl, ?_⟩
  have ro : RP (upd H p (.tup [.int 0, .int 1])) (o.getD (.ref p)) ((SF.get T' e).getD 0) := by
    rcases ho with ⟨h1, h2⟩ | ⟨v, x, h1, h2, h3⟩
    · rw [h1, h2]
      exact ⟨p, rfl, upd_same⟩
    · rw [h1, h2]
      exact h3
  refine ⟨_, c, _, k, rfl, ro, mo_RP (.of e1) hc, fun v H2 e2 hv => ?_⟩
  have e12 := e1.tr e2
  obtain ⟨t, rfl, hv2⟩ := id hv
  refine ⟨_, rfl, t, _, _, _, rfl, rfl, SqT.of hv2, atI_nat (j := 0) rfl, rfl, _, rfl, ?_⟩
  have pl : plus T' e k = if (SF.get T' e).getD 0 + k = 0 then SF.drop T' e else SF.put T' e ((SF.get T' e).getD 0 + k) := rfl
  by_cases hz : (SF.get T' e).getD 0 + k = 0
  · rw [if_pos hz] at pl
    refine ifT (by rw [hn_zero]; exact decide_eq_true hz) ?_
    refine ⟨_, rfl, (ht.mo mo_RP e12).tyV, _, rfl, cls_of (drop_some mo_RP (ht.mo mo_RP e12) (mo_RT (.of e12) hy) fun v H3 e3 h3 => hQ _ (ExS.trS (.of e12) e3) ?_)⟩
    rw [pl]
    exact h3
  · rw [if_neg hz] at pl
    refine ifF (by rw [hn_zero]; exact decide_eq_false hz) ?_
    obtain ⟨H3, g1, g2, g3⟩ := dt_put mo_RP (ht.mo mo_RP e12) hl (mo_RT (.of e12) hy) hv
    refine ⟨_, rfl, _, rfl, _, rfl, a, H3, rfl, g1, hQ _ (ExS.trS (.of e12) g2) ?_⟩
    rw [pl]
    exact g3
def spTableOf : Sp := fun vs H Q _ => ∃ (a : Addr) (us : List V) (L : Tb), vs = [.ref a] ∧ H a = some (.lst us) ∧ All (RPr RT RP) H us L ∧ L.length < 100000 ∧ ∀ v H', Ex H H' → NewD RP H H' v (tableOf L) → Q v H'
theorem len_puts : ∀ (L : Tb) (T : Tb), (L.foldl (fun T kv => SF.put T kv.1 kv.2) T).length ≤ T.length + L.length
  | [], T => by simp
  | q :: L, T => by
    have h1 := len_puts L (SF.put T q.1 q.2)
    have h2 := len_put T q.1 q.2
    rw [List.foldl_cons, List.length_cons]
    omega
theorem sc_law_table_of : FnScope ["_law_pairs", "_law_found", "_law_key", "_law_c"] ["_law_pairs"] (defScope (top 53)) := ⟨rfl, rfl, rfl, by decide +kernel, rfl, by decide +kernel, by decide +kernel⟩
theorem ok_law_table_of (T : Tx K mg) : Cal P w K mg base 1 "_law_table_of" ["_law_pairs"] [] (spTableOf) := by
  obtain ⟨fd, F⟩ := T.d 22 _ rfl
  have sc := sc_law_table_of
  refine ⟨_, fd, [], FunD.ok (k := 0) F sc (fun vs H Q E h => by obtain ⟨_, _, _, rfl, _⟩ := h; rfl) (fun cdv A outer s H vs Q E hr h => ?_), T.g "_law_table_of" (by decide +kernel), F.kp, FunD.bindsN F (fun _ _ _ _ _ _ us hl => match us, hl with | [_], _ => rfl), .nil⟩
  refine ⟨_, PSs.nox ((pss_cons (ps_set (i := 1) sc.nd rfl (Or.inl rfl) pe_dnewT)
  (pss_cons (ps_for PassesOwn.never rfl (pi_list (pv 0)) (pg_tup rfl (pgs_cons (pg_name (i := 2) sc.nd rfl (Or.inl rfl)) (pgs_cons (pg_name (i := 3) sc.nd rfl (Or.inl rfl)) pgs_nil)))
  (pss_one (ps_dput (hu_of hr) (pv 1) (pv 2) (pv 3) rfl)))
  (pss_one (ps_ret (pv 1)))))), ?_⟩
  obtain ⟨a, us, L, rfl, ha, hL, hl, hQ⟩ := h
  refine fun D hD => ⟨_, rfl, a, rfl, ⟨_, SqL.of (upd_new hD ha)⟩, ?_⟩
  have e0 : Ex H (upd H D (.dT [])) := .nw hD
  refine for_seqL (hL.mo (mo_RPr mo_RT mo_RP) (.of e0)) (mo_RPr mo_RT mo_RP) (fun T kv => SF.put T kv.1 kv.2) [] (fun i T' σ H1 => ∃ b c, σ = [some (.ref a), some (.ref D), b, c] ∧ Bd RP [] H D T' H1 ∧ Imm (upd H D (.dT [])) H1 ∧ T'.length ≤ i) ⟨none, none, rfl, .new hD, .rf, Nat.zero_le _⟩ (fun i T' σ H1 h => ?_) (fun i T' q x σ H1 hi hx h => ?_) fun σ H1 h => ?_
  · obtain ⟨b, c, rfl, hB, hI, _⟩ := h
    exact ⟨SqL.of (hB.ex a _ (fun z => nomatch z) ha), hI⟩
  · obtain ⟨b, c, rfl, hB, hI, hT⟩ := h
    obtain ⟨t, x1, y1, rfl, ht, r1, r2⟩ := hx
    have hi2 := (List.getElem?_eq_some_iff.mp hi).1
    refine ⟨t, _, rfl, SqT.of ht, rfl, _, _, rfl, _, _, rfl, rfl, ?_⟩
    obtain ⟨H3, g1, g2, g3⟩ := dt_put mo_RP hB.tab (by omega) r1 r2
    refine ⟨_, rfl, _, rfl, _, rfl, D, H3, rfl, g1, _, _, rfl, hB.step g2 g3, hI.tr (hB.imm g2), ?_⟩
    have := len_put T' q.1 q.2
    omega
  · obtain ⟨b, c, rfl, hB, _⟩ := h
    exact ⟨_, rfl, hQ _ _ hB.ex.ex hB.newD⟩
def spSum : Sp := fun vs H Q _ => ∃ (a b : Addr) (x : V) (A B : Tb) (f : Int), vs = [.ref a, .ref b, x] ∧ Dt RP H a A ∧ Dt RP H b B ∧ RP H x f ∧ OkK A ∧ A.length ≤ 1000 ∧ B.length ≤ 1000 ∧ (∀ q ∈ B, q.2 % 2 = 0 ∧ -(2 ^ 60) < q.2 ∧ q.2 < 2 ^ 60) ∧ (B.map (·.1)).Nodup ∧ ∀ v H', Ex H H' → NewD RP H H' v (sumT A B f) → Q v H'
theorem sc_law_sum : FnScope ["_law_a", "_law_b", "_law_factor", "_law_total", "_law_exponent"] ["_law_a", "_law_b", "_law_factor"] (defScope (top 65)) := ⟨rfl, rfl, rfl, by decide +kernel, rfl, by decide +kernel, by decide +kernel⟩
theorem ok_law_sum (T : Tx K mg) : Cal P w K mg base 5 "_law_sum" ["_law_a", "_law_b", "_law_factor"] [] (spSum) := by
  have c_law_mul := ok_law_mul (P := P) (w := w) (base := base) T
  have c_law_plus := ok_law_plus (P := P) (w := w) (base := base) T
  obtain ⟨fd, F⟩ := T.d 34 _ rfl
  have sc := sc_law_sum
  refine ⟨_, fd, [], FunD.ok (k := 4) F sc (fun vs H Q E h => by obtain ⟨_, _, _, _, _, _, rfl, _⟩ := h; rfl) (fun cdv A outer s H vs Q E hr h => ?_), T.g "_law_sum" (by decide +kernel), F.kp, FunD.bindsN F (fun _ _ _ _ _ _ us hl => match us, hl with | [_, _, _], _ => rfl), .nil⟩
  refine ⟨_, PSs.nox ((pss_cons (ps_set (i := 3) sc.nd rfl (Or.inl rfl) (pe_callTy (call_dictT (hr.mono (by decide))) (by rfl) (T.f "dict" (by decide +kernel)) (by decide +kernel) (pa_cons (pv 0) pa_nil)))
  (pss_cons (ps_lock (ps_for PassesOwn.never rfl (pi_keys (pv 1)) (pg_name (i := 4) sc.nd rfl (Or.inl rfl))
  (pss_one (ps_expr (pe_cg c_law_plus (hr.mono (by decide)) (pa_cons (pv 3) (pa_cons (pv 4) (pa_cons (pe_cg c_law_mul (hr.mono (by decide)) (pa_cons (pv 2) (pa_cons (pe_dget (hu_of hr) (pv 1) (pv 4) (fun _ _ => rfl)) pa_nil))) pa_nil))))))))
  (pss_one (ps_ret (pv 3)))))), ?_⟩
  obtain ⟨a, b, x, A', B, f, rfl, ha, hb, hx, ok, la, lb, hev, hnd, hQ⟩ := h
  obtain ⟨ka, ha1, ha2⟩ := id ha
  obtain ⟨kb, hb1, hb2⟩ := id hb
  refine ⟨_, rfl, a, ka, rfl, .inl ha1, apart_of ha2 ok, fun D hD => ?_⟩
  have e0 : Ex H (upd H D (.dT ka)) := .nw hD
  have nbD : b ≠ D := ne_of_none hb1 hD
  refine ⟨b, _, e0 _ _ hb1, trivial, fun od => ⟨_, rfl, b, od, rfl, .inr ⟨kb, upd_same, ?_⟩⟩⟩
  have im0 : Imm H (upd (upd H D (.dT ka)) b (.frz od (.dT kb))) := (Imm.of e0).tr (.dT (e0 _ _ hb1))
  have B0 : Bd RP [b] H D A' (upd (upd H D (.dT ka)) b (.frz od (.dT kb))) := ⟨.lock (.of e0), hD, ka, by rw [upd_ne (Ne.symm nbD), upd_same], ha2.mo mo_RP im0⟩
  refine for_keysT (hb2.mo mo_RP im0) mo_RP (fun acc kv => plus acc kv.1 (f * (kv.2 / 2))) A' (fun i T' σ H1 => ∃ c, σ = [some (.ref a), some (.ref b), some x, some (.ref D), c] ∧ Bd RP [b] H D T' H1 ∧ H1 b = some (.frz od (.dT kb)) ∧ Imm H H1 ∧ Imm (upd (upd H D (.dT ka)) b (.frz od (.dT kb))) H1 ∧ T'.length ≤ 1000 + i) ⟨none, rfl, B0, upd_same, im0, .rf, la⟩ (fun i T' σ H1 h => ?_) (fun i T' q v y σ H1 hi hk hv hy h => ?_) fun σ H1 h => ?_
  · obtain ⟨c, rfl, hB, h1, h2, h3, _⟩ := h
    exact ⟨h1, h3⟩
  · obtain ⟨c, rfl, hB, h1, h2, h3, hT⟩ := h
    have hi2 := (List.getElem?_eq_some_iff.mp hi).1
    have hq : q ∈ B := List.mem_of_getElem? hi
    obtain ⟨w1, w2, w3⟩ := hev q hq
    obtain ⟨o, g, ho⟩ := fz_get h1 (hb2.mo mo_RP h2) hy
    have gq : SF.get B q.1 = some q.2 := get_mem hnd hq
    rcases ho with ⟨_, g0⟩ | ⟨v', x', ho, g0, r0⟩
    · rw [gq] at g0; cases g0
    rw [gq] at g0
    cases g0
    subst ho
    refine ⟨_, rfl, _, rfl, _, rfl, _, rfl, _, rfl, b, v', rfl, g, ?_⟩
    refine ⟨_, _, f, q.2, rfl, mo_RP h2 hx, r0, w1, .inr ⟨w2, w3⟩, fun u H2 e2 hu => ?_⟩
    refine ⟨D, _, _, T', q.1, _, rfl, (hB.grow mo_RP e2).tab, mo_RT (.of e2) hy, hu, by omega, fun H3 e3 h3' => ?_⟩
    have hB2 := hB.grow mo_RP e2
    refine ⟨_, rfl, hB2.step e3 h3', ?_, h2.tr ((Imm.of e2).tr (hB2.imm e3)), h3.tr ((Imm.of e2).tr (hB2.imm e3)), ?_⟩
    · exact e3 _ _ (fun z => nbD (List.mem_singleton.mp z)) (e2 _ _ h1)
    · have := len_plus T' q.1 (f * (q.2 / 2))
      omega
  · obtain ⟨c, rfl, hB, h1, h2, h3, _⟩ := h
    refine ⟨h1, _, rfl, hQ _ _ (ExS.free hB.ex hb1).ex ⟨D, rfl, hD, ?_⟩⟩
    obtain ⟨kd, d1, d2⟩ := hB.tab
    exact ⟨kd, by rw [upd_ne (Ne.symm nbD)]; exact d1, d2.mo mo_RP (.frz h1)⟩
end
end FB
namespace FB
open PySem PySem.Spec PyProof.Rows L2 SF FR
section
variable {P : Program} {w : World} {K : PySem.W.Frag} {mg : Str → Option Value} {base : Heap}
theorem all_RI {H : Hp} : ∀ {vs : List V} {ns : List Int}, All RI H vs ns → vs = ns.map V.int
  | _, _, .nil => rfl
  | _, _, .cons a t => by rw [List.map_cons, all_RI t, show _ = V.int _ from a]
def spTimes : Sp := fun vs H Q _ => ∃ (a b : Addr) (A B : Tb) (n : Nat), vs = [.ref a, .ref b] ∧ a ≠ b ∧ Dt RP H a A ∧ Dt RP H b B ∧ A.length ≤ 100 ∧ B.length ≤ 100 ∧ n ≤ 100 ∧ (∀ q ∈ A, q.1.length = n) ∧ (∀ q ∈ B, q.1.length = n ∧ q.2 % 2 = 0 ∧ -(2 ^ 60) < q.2 ∧ q.2 < 2 ^ 60) ∧ (A.map (·.1)).Nodup ∧ (B.map (·.1)).Nodup ∧ ∀ v H', Ex H H' → NewD RP H H' v (timesT A B) → Q v H'
theorem fz_at {H : Hp} {D : Addr} {o : Obj} {kvs : List (List Key × V)} {T : Tb} {y : V} {q : Pt × Int} (h : H D = some (.frz o (.dT kvs))) (h2 : TabV RP H kvs T) (nd : (T.map (·.1)).Nodup) (hq : q ∈ T) (ry : RT H y q.1) : ∃ v, DGet H D y (some v) ∧ RP H v q.2 := by
  obtain ⟨o, g, ho⟩ := fz_get h h2 ry
  have gq : SF.get T q.1 = some q.2 := get_mem nd hq
  rcases ho with ⟨_, g0⟩ | ⟨v', x', ho, g0, r0⟩
  · rw [gq] at g0; cases g0
  rw [gq] at g0
  cases g0
  subst ho
  exact ⟨v', g, r0⟩
theorem sc_law_times : FnScope ["_law_a", "_law_b", "_law_total", "_law_first", "_law_second", "_law_exponent", "_law_k"] ["_law_a", "_law_b"] (defScope (top 66)) := ⟨rfl, rfl, rfl, by decide +kernel, rfl, by decide +kernel, by decide +kernel⟩
theorem ok_law_times (T : Tx K mg) : Cal P w K mg base 5 "_law_times" ["_law_a", "_law_b"] [] (spTimes) := by
  have c_law_mul := ok_law_mul (P := P) (w := w) (base := base) T
  have c_law_plus := ok_law_plus (P := P) (w := w) (base := base) T
  obtain ⟨fd, F⟩ := T.d 35 _ rfl
  have sc := sc_law_times
  refine ⟨_, fd, [], FunD.ok (k := 4) F sc (fun vs H Q E h => by obtain ⟨_, _, _, _, _, rfl, _⟩ := h; rfl) (fun cdv A outer s H vs Q E hr h => ?_), T.g "_law_times" (by decide +kernel), F.kp, FunD.bindsN F (fun _ _ _ _ _ _ us hl => match us, hl with | [_, _], _ => rfl), .nil⟩
  refine ⟨_, PSs.nox ((pss_cons (ps_set (i := 2) sc.nd rfl (Or.inl rfl) pe_dnewT)
  (pss_cons (ps_lock (ps_for PassesOwn.never rfl (pi_keys (pv 0)) (pg_name (i := 3) sc.nd rfl (Or.inr rfl))
  (pss_one (ps_lock (ps_for PassesOwn.never rfl (pi_keys (pv 1)) (pg_name (i := 4) sc.nd rfl (Or.inr rfl))
  (pss_cons (ps_set (i := 5) sc.nd rfl (Or.inl rfl) (pe_callTy call_tuple_of (by rfl) (T.f "tuple" (by decide +kernel)) (by decide +kernel) (pa_cons (pe_lc (own := [("_law_k", 6)]) rfl sc.nd (pi_range1 rfl (T.f "range" (by decide +kernel)) (pa_cons (pe_callB call_len_seq (by rfl) (T.f "len" (by decide +kernel)) (by decide +kernel) (pa_cons (pv 3) pa_nil)) pa_nil)) (blkOk_by (N := ["_law_a", "_law_b", "_law_total", "_law_first", "_law_second", "_law_exponent", "_law_k"]) (sc := defScope (top 66)) (by decide +kernel)) (fun _ _ _ _ _ => (pg_name (i := 6) sc.nd rfl (Or.inl rfl))) (fun _ _ _ _ _ => pts_nil) (fun _ _ _ _ _ => (pe_op op_add (pe_ix (ix_tupK (K := K)) (pv 3) (pv 6) (fun _ _ => rfl)) (pe_ix (ix_tupK (K := K)) (pv 4) (pv 6) (fun _ _ => rfl))))) pa_nil)))
  (pss_one (ps_expr (pe_cg c_law_plus (hr.mono (by decide)) (pa_cons (pv 2) (pa_cons (pv 5) (pa_cons (pe_cg c_law_mul (hr.mono (by decide)) (pa_cons (pe_dget (hu_of hr) (pv 0) (pv 3) (fun _ _ => rfl)) (pa_cons (pe_dget (hu_of hr) (pv 1) (pv 4) (fun _ _ => rfl)) pa_nil))) pa_nil))))))))))))
  (pss_one (ps_ret (pv 2)))))), ?_⟩
  obtain ⟨a, b, A', B, n, rfl, hab, ha, hb, la, lb, ln, hA, hB', na, nb, hQ⟩ := h
  obtain ⟨ka, ha1, ha2⟩ := id ha
  obtain ⟨kb, hb1, hb2⟩ := id hb
  refine fun D hD => ?_
  have e0 : Ex H (upd H D (.dT [])) := .nw hD
  have naD : a ≠ D := ne_of_none ha1 hD
  have nbD : b ≠ D := ne_of_none hb1 hD
  refine ⟨a, _, e0 _ _ ha1, trivial, fun oa => ⟨_, rfl, a, oa, rfl, .inr ⟨ka, upd_same, ?_⟩⟩⟩
  have im0 : Imm H (upd (upd H D (.dT [])) a (.frz oa (.dT ka))) := (Imm.of e0).tr (.dT (e0 _ _ ha1))
  have B0 : Bd RP [a] H D [] (upd (upd H D (.dT [])) a (.frz oa (.dT ka))) := ⟨.lock (.of e0), hD, [], by rw [upd_ne (Ne.symm naD), upd_same], .nil⟩
  refine for_keysT (ha2.mo mo_RP im0) mo_RP (fun acc x => B.foldl (fun acc y => plus acc (List.zipWith (· + ·) x.1 y.1) (x.2 * (y.2 / 2))) acc) [] (fun i T' σ H1 => ∃ c d e f, σ = [some (.ref a), some (.ref b), some (.ref D), c, d, e, f] ∧ Bd RP [a] H D T' H1 ∧ H1 a = some (.frz oa (.dT ka)) ∧ Imm H H1 ∧ Imm (upd (upd H D (.dT [])) a (.frz oa (.dT ka))) H1 ∧ T'.length ≤ i * 100) ⟨none, none, none, none, rfl, B0, upd_same, im0, .rf, Nat.zero_le _⟩ (fun i T' σ H1 h => ?_) (fun i T' q v y σ H1 hi hk hv hy h => ?_) fun σ H1 h => ?_
  · obtain ⟨c, d, e, f, rfl, hB, h1, h2, h3, _⟩ := h
    exact ⟨h1, h3⟩
  · obtain ⟨c, d, e, f, rfl, hB, h1, h2, h3, hT⟩ := h
    have hi2 := (List.getElem?_eq_some_iff.mp hi).1
    have hq : q ∈ A' := List.mem_of_getElem? hi
    have hb3 : H1 b = some (.dT kb) := hB.ex b _ (fun z => hab (List.mem_singleton.mp z).symm) hb1
    refine ⟨b, _, hb3, trivial, fun ob => ⟨_, rfl, b, ob, rfl, .inr ⟨kb, upd_same, ?_⟩⟩⟩
    have im1 : Imm H1 (upd H1 b (.frz ob (.dT kb))) := .dT hb3
    have B1 : Bd RP (b :: [a]) H D T' (upd H1 b (.frz ob (.dT kb))) := by
      refine ⟨.lock hB.ex, hD, ?_⟩
      obtain ⟨kd, d1, d2⟩ := hB.tab
      exact ⟨kd, by rw [upd_ne (Ne.symm nbD)]; exact d1, d2.mo mo_RP im1⟩
    refine for_keysT (hb2.mo mo_RP (h2.tr im1)) mo_RP (fun acc z => plus acc (List.zipWith (· + ·) q.1 z.1) (q.2 * (z.2 / 2))) T' (fun j T2 σ H2 => ∃ d e f, σ = [some (.ref a), some (.ref b), some (.ref D), some y, d, e, f] ∧ Bd RP (b :: [a]) H D T2 H2 ∧ H2 a = some (.frz oa (.dT ka)) ∧ H2 b = some (.frz ob (.dT kb)) ∧ Imm H1 H2 ∧ Imm (upd H1 b (.frz ob (.dT kb))) H2 ∧ T2.length ≤ i * 100 + j) ⟨d, e, f, rfl, B1, by rw [upd_ne hab]; exact h1, upd_same, im1, .rf, hT⟩ (fun j T2 σ H2 h => ?_) (fun j T2 z v2 y2 σ H2 hj hk2 hv2 hy2 h => ?_) fun σ H2 h => ?_
    · obtain ⟨d, e, f, rfl, hB2, g1, g2, g3, g4, _⟩ := h
      exact ⟨g2, g4⟩
    · obtain ⟨d, e, f, rfl, hB2, g1, g2, g3, g4, hT2⟩ := h
      have hj2 := (List.getElem?_eq_some_iff.mp hj).1
      have hz : z ∈ B := List.mem_of_getElem? hj
      obtain ⟨w0, w1, w2, w3⟩ := hB' z hz
      have wq := hA q hq
      obtain ⟨ta, ra, hta⟩ := id (mo_RT g3 hy)
      obtain ⟨tb, rb, htb⟩ := id hy2
      subst ra rb
      refine ⟨_, rfl, ta, _, rfl, .inr (SqT.of hta), _, rfl, by rw [List.length_map]; omega, by rw [List.length_map]; omega, fun L hL => ?_⟩
      rw [List.length_map, Int.toNat_natCast]
      have lz : (List.zipWith (· + ·) q.1 z.1).length = q.1.length := by rw [List.length_zipWith, wq, w0, Nat.min_self]
      refine lc_rng (n := q.1.length) (fun i => (List.zipWith (· + ·) q.1 z.1)[i]?.bind some) mo_RI (by omega) (fun k H3 C N hk e3 c1 c2 => ?_) hL (fun H3 acc e3 h3 hAc => ?_)
      · have k1 : k < z.1.length := by omega
        have hkk : (List.zipWith (· + ·) q.1 z.1)[k]?.bind some = some (q.1[k] + z.1[k]) := by
          rw [List.getElem?_zipWith, List.getElem?_eq_getElem hk, List.getElem?_eq_getElem k1]
          rfl
        refine ⟨rfl, yes_of (iteT ⟨_, rfl, _, rfl, ta, _, _, _, rfl, rfl, SqT.of (e3 _ _ hta), by rw [Int.zero_add]; exact atI_nat (v := V.int q.1[k]) (by rw [List.getElem?_map, List.getElem?_eq_getElem hk]; rfl), ?_⟩)⟩
        refine ⟨_, rfl, _, rfl, tb, _, _, _, rfl, rfl, SqT.of (e3 _ _ htb), by rw [Int.zero_add]; exact atI_nat (v := V.int z.1[k]) (by rw [List.getElem?_map, List.getElem?_eq_getElem k1]; rfl), ?_⟩
        exact ⟨_, _, rfl, rfl, c1 _ _ _ hkk .rf rfl⟩
      · rw [← lz, range_data] at hAc
        have ea := all_RI hAc
        rw [List.filterMap_some] at ea
        refine ⟨L, _, rfl, .inl ⟨SqL.of h3, fun l hl => ?_⟩⟩
        have e4 := e3.tr (Ex.nw (o := HO.tup acc) hl)
        have i4 : Imm H1 (upd H3 l (.tup acc)) := g3.tr (.of e4)
        obtain ⟨va, ga, ra⟩ := fz_at (e4 _ _ g1) (ha2.mo mo_RP (h2.tr i4)) na hq ⟨ta, rfl, e4 _ _ hta⟩
        obtain ⟨vb, gb, rb⟩ := fz_at (e4 _ _ g2) (hb2.mo mo_RP (h2.tr i4)) nb hz ⟨tb, rfl, e4 _ _ htb⟩
        refine ⟨_, rfl, _, rfl, _, rfl, _, rfl, a, va, rfl, ga, _, rfl, _, rfl, b, vb, rfl, gb, ?_⟩
        refine ⟨_, _, q.2, z.2, rfl, ra, rb, w1, .inr ⟨w2, w3⟩, fun u H5 e5 hu => ?_⟩
        have hB5 := hB2.grow mo_RP (e4.tr e5)
        refine ⟨D, _, _, T2, List.zipWith (· + ·) q.1 z.1, _, rfl, hB5.tab, ⟨l, rfl, e5 _ _ (by rw [upd_same, ea])⟩, hu, by omega, fun H6 e6 h6 => ?_⟩
        refine ⟨_, _, _, rfl, hB5.step e6 h6, e6 _ _ (fun z => naD (List.mem_singleton.mp z)) (e5 _ _ (e4 _ _ g1)), e6 _ _ (fun z => nbD (List.mem_singleton.mp z)) (e5 _ _ (e4 _ _ g2)), g3.tr ((Imm.of (e4.tr e5)).tr (hB5.imm e6)), g4.tr ((Imm.of (e4.tr e5)).tr (hB5.imm e6)), ?_⟩
        have := len_plus T2 (List.zipWith (· + ·) q.1 z.1) (q.2 * (z.2 / 2))
        omega
    · obtain ⟨d, e, f, rfl, hB2, g1, g2, g3, g4, hT2⟩ := h
      refine ⟨g2, _, _, _, _, rfl, ⟨ExS.free hB2.ex hb1, hD, ?_⟩, by rw [upd_ne hab]; exact g1, h2.tr (g3.tr (.frz g2)), h3.tr (g3.tr (.frz g2)), by omega⟩
      obtain ⟨kd, d1, d2⟩ := hB2.tab
      exact ⟨kd, by rw [upd_ne (Ne.symm nbD)]; exact d1, d2.mo mo_RP (.frz g2)⟩
  · obtain ⟨c, d, e, f, rfl, hB, h1, h2, h3, _⟩ := h
    refine ⟨h1, _, rfl, hQ _ _ (ExS.free hB.ex ha1).ex ⟨D, rfl, hD, ?_⟩⟩
    obtain ⟨kd, d1, d2⟩ := hB.tab
    exact ⟨kd, by rw [upd_ne (Ne.symm naD)]; exact d1, d2.mo mo_RP (.frz h1)⟩
end
end FB
namespace FB
open PySem PySem.Spec PyProof.Rows L2 SF FR
section
variable {P : Program} {w : World} {K : PySem.W.Frag} {mg : Str → Option Value} {base : Heap}
def spExps (n : Nat) : Sp := fun vs H Q _ => ∃ m d : Nat, vs = [.int (m : Int), .int (d : Int)] ∧ m < n ∧ m ≤ 8 ∧ d ≤ 8 ∧ (∀ m' ≤ m, ∀ d' ≤ d, (exps m' d').length ≤ 1000) ∧ ∀ v H', Ex H H' → NewL RT H H' v (exps m d) → Q v H'
theorem exps_len : ∀ (n d : Nat) (r : Pt), r ∈ exps n d → r.length = n
  | 0, d, r, h => by
    unfold exps at h
    split at h
    · rw [List.mem_singleton.mp h]; rfl
    · cases h
  | n + 1, d, r, h => by
    unfold exps at h
    obtain ⟨i, _, h2⟩ := List.mem_flatMap.mp h
    obtain ⟨r', h3, rfl⟩ := List.mem_map.mp h2
    rw [List.length_cons, exps_len n i r' h3]
theorem new_ne {α : Type} {R : Rv α} {H0 D l H1 xs} (hB : Bl R H0 D xs H1) (hl : H1 l = none) : l ≠ D := fun z => by
  obtain ⟨us', h1, _⟩ := hB.acc
  rw [z, h1] at hl
  cases hl
theorem sc_law_exponents : FnScope ["_law_n", "_law_d", "_law_found", "_law_k", "_law_rest"] ["_law_n", "_law_d"] (defScope (top 63)) := ⟨rfl, rfl, rfl, by decide +kernel, rfl, by decide +kernel, by decide +kernel⟩
theorem ok_law_exponents (T : Tx K mg) (n : Nat) : Cal P w K mg base (n + 0) "_law_exponents" ["_law_n", "_law_d"] [] (spExps n) := by
  obtain ⟨fd, F⟩ := T.d 32 _ rfl
  have sc := sc_law_exponents
  have bd : Binds K fd ["_law_n", "_law_d"] [] := FunD.bindsN F (fun _ _ _ _ _ _ us hl => match us, hl with | [_, _], _ => rfl)
  refine ⟨_, fd, [], ?_, T.g "_law_exponents" (by decide +kernel), F.kp, bd, .nil⟩
  induction n with
  | zero => exact FnOk.vac fun vs H Q E h => by obtain ⟨_, _, _, h, _⟩ := h; exact absurd h (Nat.not_lt_zero _)
  | succ n ih =>
    have c_rec : Cal P w K mg base (n + 0) "_law_exponents" ["_law_n", "_law_d"] [] (spExps n) := ⟨_, fd, [], ih, T.g "_law_exponents" (by decide +kernel), F.kp, bd, .nil⟩
    rw [show n + 1 + 0 = (n + 0) + 1 by omega]
    refine FunD.ok (k := n + 0) F sc (fun vs H Q E h => by obtain ⟨_, _, rfl, _⟩ := h; rfl) (fun cdv A outer s H vs Q E hr h => ⟨_, PSs.nox ((pss_cons (ps_if (pt_cmpR op_eq (pv 0) pe_int (nomark _))
  (pss_one (ps_ret (pe_ifExp (pt_cmpR op_eq (pv 1) pe_int (nomark _)) (pe_lst (pa_cons (pe_tup pa_nil) pa_nil)) (pe_lst pa_nil)))) pss_nil)
  (pss_cons (ps_set (i := 2) sc.nd rfl (Or.inl rfl) (pe_lst pa_nil))
  (pss_cons (ps_for PassesOwn.never rfl (pi_range3 rfl (T.f "range" (by decide +kernel)) (pa_cons (pv 1) (pa_cons (pe_un un_neg pe_int) (pa_cons (pe_un un_neg pe_int) pa_nil)))) (pg_name (i := 3) sc.nd rfl (Or.inl rfl))
  (pss_one (ps_for PassesOwn.never rfl (pi_list (pe_cg c_rec hr (pa_cons (pe_op op_sub (pv 0) pe_int) (pa_cons (pe_op op_sub (pv 1) (pv 3)) pa_nil)))) (pg_name (i := 4) sc.nd rfl (Or.inl rfl))
  (pss_one (ps_expr (pe_bm PySem.F.plainAttrs_list PySem.F.slot_list_append PySem.F.type_list_append mt_append (pv 2) (pa_cons (pe_op op_catA (pe_tup (pa_cons (pv 3) pa_nil)) (pv 4)) pa_nil)))))))
  (pss_one (ps_ret (pv 2))))))), ?_⟩)
    obtain ⟨m, d, rfl, hn, hm4, hd, hln, hQ⟩ := h
    refine ⟨_, rfl, rfl, _, rfl, ?_⟩
    cases m with
    | zero =>
      refine iteT ⟨_, rfl, rfl, _, rfl, ?_⟩
      cases d with
      | zero =>
        refine iteT ⟨t0, fun p hp => ⟨t1, fun l hl => ?_⟩⟩
        exact hQ _ _ ((Ex.nw hp).tr (.nw hl)) ⟨l, _, rfl, (Ex.nw hp).fr hl, upd_same, .cons ⟨p, rfl, by rw [upd_ne (fun z => by rw [z] at hl; rw [upd_same] at hl; cases hl), upd_same]; rfl⟩ .nil⟩
      | succ d => exact ifF (eqI_f (by omega)) ⟨t0, fun l hl => hQ _ _ (.nw hl) ⟨l, _, rfl, hl, upd_same, .nil⟩⟩
    | succ m =>
      refine ifF (eqI_f (by omega)) ⟨t0, fun D hD => ⟨_, rfl, _, rfl, _, rfl, d, -1, -1, _, rfl, RgC.neg (by omega) (by omega) (by omega) (by omega), ?_⟩⟩
      refine for_rangeC (fun i σ H' => ∃ u1 u2, σ = [some (.int ((m + 1 : Nat) : Int)), some (.int (d : Int)), some (.ref D), u1, u2] ∧ Bl RT H D ((List.range i).flatMap (fun i => (exps m i).map fun r => ((d - i : Nat) : Int) :: r)) H' ∧ ((List.range i).flatMap (fun i => (exps m i).map fun r => ((d - i : Nat) : Int) :: r)).length ≤ i * 1000) ⟨none, none, rfl, .new hD, by simp⟩ (fun i σ H1 hi hI => ?_) fun σ H1 hI => ?_
      · obtain ⟨u1, u2, rfl, hB, hL⟩ := hI
        have le := hln m (by omega) i (by omega)
        refine ⟨_, rfl, _, _, rfl, rfl, _, rfl, _, rfl, _, _, rfl, rfl, m, i, lst2 (vint (by omega)) (vint (by omega)), by omega, by omega, by omega, fun m' h' d' h'' => hln m' (by omega) d' (by omega), fun v H2 e2 hv => ?_⟩
        obtain ⟨l, us, rfl, hl, hl2, hA⟩ := hv
        have hlD : l ≠ D := new_ne hB hl
        have B2 := hB.grow mo_RT e2
        refine ⟨l, rfl, ⟨_, SqL.of hl2⟩, ?_⟩
        refine for_seqL hA mo_RT (fun s r => s ++ [((d - i : Nat) : Int) :: r]) _ (fun j s σ H3 => ∃ u3, σ = [some (.int ((m + 1 : Nat) : Int)), some (.int (d : Int)), some (.ref D), some (.int ((d : Int) + (i : Nat) * -1)), u3] ∧ Bl RT H D s H3 ∧ ExS [D] H2 H3 ∧ s.length ≤ i * 1000 + j) ⟨u2, rfl, B2, .rf, hL⟩
          (fun j s σ H3 h => by
            obtain ⟨u3, rfl, h1, h2, h3⟩ := h
            exact ⟨SqL.of (h2 l _ (fun z => hlD (List.mem_singleton.mp z)) hl2), B2.imm h2⟩)
          (fun j s r x σ H3 hj hx h => ?_) fun σ H3 h => ?_
        · obtain ⟨u3, rfl, h1, h2, h3⟩ := h
          have j1 := (List.getElem?_eq_some_iff.mp hj).1
          have rl : r.length ≤ 1000 := by rw [exps_len _ _ _ (List.mem_of_getElem? hj)]; omega
          refine ⟨_, rfl, Or.inl ⟨rfl, h1.sql⟩, ⟨_, rfl, t1, fun p hp => ⟨_, rfl, cat_of (xs := [(d : Int) + (i : Nat) * -1]) (RT.mk upd_same) (mo_RT (.nw hp) hx) (by show 1 + r.length ≤ _; omega) fun v H4 e4 r4 => ?_⟩⟩⟩
          have e : [(d : Int) + (i : Nat) * -1] ++ r = ((d - i : Nat) : Int) :: r := by
            rw [show (d : Int) + (i : Nat) * -1 = ((d - i : Nat) : Int) by omega]
            rfl
          rw [e] at r4
          exact nil_of (app_of mo_RT (h1.grow mo_RT ((Ex.nw hp).tr e4)) r4 (by omega) fun H5 b5 e5 => ⟨_, rfl, b5, (h2.tr ((Ex.nw hp).tr e4)).trS e5, by rw [List.length_append]; show _ + 1 ≤ _; omega⟩)
        · obtain ⟨u3, rfl, h1, h2, h3⟩ := h
          rw [foldl_snoc (fun r => ((d - i : Nat) : Int) :: r)] at h1 h3
          rw [← range_flat (fun i => (exps m i).map fun r => ((d - i : Nat) : Int) :: r)] at h1 h3
          exact ⟨_, _, rfl, h1, by rw [Nat.add_mul, Nat.one_mul]; omega⟩
      · obtain ⟨u1, u2, rfl, hB, hL⟩ := hI
        have e : ((d : Int) - -1).toNat = d + 1 := by omega
        rw [e] at hB
        exact ⟨_, rfl, hQ _ _ hB.ex hB.newL⟩
def spParts (n : Nat) : Sp := fun vs H Q _ => ∃ f m k : Nat, vs = [.int (m : Int), .int (k : Int)] ∧ m < n ∧ m ≤ f ∧ f ≤ 8 ∧ k ≤ 8 ∧ ∀ v H', Ex H H' → NewL RT H H' v (parts f m k) → Q v H'
theorem parts_len : ∀ f, f ≤ 8 → ∀ m, m ≤ 8 → ∀ k, k ≤ 8 → (parts f m k).length ≤ 1000 ∧ ∀ r ∈ parts f m k, r.length ≤ 8 := by decide +kernel
theorem sc_law_partitions : FnScope ["_law_n", "_law_most", "_law_found", "_law_k", "_law_rest"] ["_law_n", "_law_most"] (defScope (top 68)) := ⟨rfl, rfl, rfl, by decide +kernel, rfl, by decide +kernel, by decide +kernel⟩
theorem ok_law_partitions (T : Tx K mg) (n : Nat) : Cal P w K mg base (n + 0) "_law_partitions" ["_law_n", "_law_most"] [] (spParts n) := by
  obtain ⟨fd, F⟩ := T.d 37 _ rfl
  have sc := sc_law_partitions
  have bd : Binds K fd ["_law_n", "_law_most"] [] := FunD.bindsN F (fun _ _ _ _ _ _ us hl => match us, hl with | [_, _], _ => rfl)
  refine ⟨_, fd, [], ?_, T.g "_law_partitions" (by decide +kernel), F.kp, bd, .nil⟩
  induction n with
  | zero => exact FnOk.vac fun vs H Q E h => by obtain ⟨_, _, _, _, h, _⟩ := h; exact absurd h (Nat.not_lt_zero _)
  | succ n ih =>
    have c_rec : Cal P w K mg base (n + 0) "_law_partitions" ["_law_n", "_law_most"] [] (spParts n) := ⟨_, fd, [], ih, T.g "_law_partitions" (by decide +kernel), F.kp, bd, .nil⟩
    rw [show n + 1 + 0 = (n + 0) + 1 by omega]
    refine FunD.ok (k := n + 0) F sc (fun vs H Q E h => by obtain ⟨_, _, _, rfl, _⟩ := h; rfl) (fun cdv A outer s H vs Q E hr h => ⟨_, PSs.nox ((pss_cons (ps_if (pt_cmpR op_eq (pv 0) pe_int (nomark _))
  (pss_one (ps_ret (pe_lst (pa_cons (pe_tup pa_nil) pa_nil)))) pss_nil)
  (pss_cons (ps_set (i := 2) sc.nd rfl (Or.inl rfl) (pe_lst pa_nil))
  (pss_cons (ps_for PassesOwn.never rfl (pi_range3 rfl (T.f "range" (by decide +kernel)) (pa_cons (pe_callB (call_min2 rfl) (by rfl) (T.f "min" (by decide +kernel)) (by decide +kernel) (pa_cons (pv 0) (pa_cons (pv 1) pa_nil))) (pa_cons pe_int (pa_cons (pe_un un_neg pe_int) pa_nil)))) (pg_name (i := 3) sc.nd rfl (Or.inl rfl))
  (pss_one (ps_for PassesOwn.never rfl (pi_list (pe_cg c_rec hr (pa_cons (pe_op op_sub (pv 0) (pv 3)) (pa_cons (pv 3) pa_nil)))) (pg_name (i := 4) sc.nd rfl (Or.inl rfl))
  (pss_one (ps_expr (pe_bm PySem.F.plainAttrs_list PySem.F.slot_list_append PySem.F.type_list_append mt_append (pv 2) (pa_cons (pe_op op_catA (pe_tup (pa_cons (pv 3) pa_nil)) (pv 4)) pa_nil)))))))
  (pss_one (ps_ret (pv 2))))))), ?_⟩)
    obtain ⟨f, m, k, rfl, hn, hmf, hf, hk, hQ⟩ := h
    refine ⟨_, rfl, rfl, _, rfl, ?_⟩
    cases m with
    | zero =>
      have e0 : parts f 0 k = [[]] := by cases f <;> rfl
      rw [e0] at hQ
      refine iteT ⟨t0, fun p hp => ⟨t1, fun l hl => ?_⟩⟩
      exact hQ _ _ ((Ex.nw hp).tr (.nw hl)) ⟨l, _, rfl, (Ex.nw hp).fr hl, upd_same, .cons ⟨p, rfl, by rw [upd_ne (fun z => by rw [z] at hl; rw [upd_same] at hl; cases hl), upd_same]; rfl⟩ .nil⟩
    | succ m =>
      cases f with
      | zero => omega
      | succ f =>
      refine ifF (eqI_f (by omega)) ⟨t0, fun D hD => ⟨_, rfl, _, rfl, _, _, rfl, ?_⟩⟩
      have em : (if (k : Int) < ((m + 1 : Nat) : Int) then (k : Int) else ((m + 1 : Nat) : Int)) = ((min (m + 1) k : Nat) : Int) := by split <;> omega
      rw [em]
      refine ⟨_, rfl, _, 0, -1, _, rfl, RgC.neg (by omega) (by omega) (by omega) (by omega), ?_⟩
      refine for_rangeC (fun i σ H' => ∃ u1 u2, σ = [some (.int ((m + 1 : Nat) : Int)), some (.int (k : Int)), some (.ref D), u1, u2] ∧ Bl RT H D ((List.range i).flatMap (fun i => (parts f (m + 1 - (min (m + 1) k - i)) (min (m + 1) k - i)).map fun r => ((min (m + 1) k - i : Nat) : Int) :: r)) H' ∧ ((List.range i).flatMap (fun i => (parts f (m + 1 - (min (m + 1) k - i)) (min (m + 1) k - i)).map fun r => ((min (m + 1) k - i : Nat) : Int) :: r)).length ≤ i * 1000) ⟨none, none, rfl, .new hD, by simp⟩ (fun i σ H1 hi hI => ?_) fun σ H1 hI => ?_
      · obtain ⟨u1, u2, rfl, hB, hL⟩ := hI
        have le := parts_len f (by omega) (m + 1 - (min (m + 1) k - i)) (by omega) (min (m + 1) k - i) (by omega)
        have le1 := le.1
        refine ⟨_, rfl, _, rfl, _, _, rfl, rfl, _, rfl, f, m + 1 - (min (m + 1) k - i), min (m + 1) k - i, lst2 (vint (by omega)) (vint (by omega)), by omega, by omega, by omega, by omega, fun v H2 e2 hv => ?_⟩
        obtain ⟨l, us, rfl, hl, hl2, hA⟩ := hv
        have hlD : l ≠ D := new_ne hB hl
        have B2 := hB.grow mo_RT e2
        refine ⟨l, rfl, ⟨_, SqL.of hl2⟩, ?_⟩
        refine for_seqL hA mo_RT (fun s r => s ++ [((min (m + 1) k - i : Nat) : Int) :: r]) _ (fun j s σ H3 => ∃ u3, σ = [some (.int ((m + 1 : Nat) : Int)), some (.int (k : Int)), some (.ref D), some (.int (((min (m + 1) k : Nat) : Int) + (i : Nat) * -1)), u3] ∧ Bl RT H D s H3 ∧ ExS [D] H2 H3 ∧ s.length ≤ i * 1000 + j) ⟨u2, rfl, B2, .rf, hL⟩
          (fun j s σ H3 h => by
            obtain ⟨u3, rfl, h1, h2, h3⟩ := h
            exact ⟨SqL.of (h2 l _ (fun z => hlD (List.mem_singleton.mp z)) hl2), B2.imm h2⟩)
          (fun j s r x σ H3 hj hx h => ?_) fun σ H3 h => ?_
        · obtain ⟨u3, rfl, h1, h2, h3⟩ := h
          have j1 := (List.getElem?_eq_some_iff.mp hj).1
          have rl : r.length ≤ 1000 := Nat.le_trans (le.2 r (List.mem_of_getElem? hj)) (by omega)
          refine ⟨_, rfl, Or.inl ⟨rfl, h1.sql⟩, ⟨_, rfl, t1, fun p hp => ⟨_, rfl, cat_of (xs := [((min (m + 1) k : Nat) : Int) + (i : Nat) * -1]) (RT.mk upd_same) (mo_RT (.nw hp) hx) (by show 1 + r.length ≤ _; omega) fun v H4 e4 r4 => ?_⟩⟩⟩
          have e : [((min (m + 1) k : Nat) : Int) + (i : Nat) * -1] ++ r = ((min (m + 1) k - i : Nat) : Int) :: r := by
            rw [show ((min (m + 1) k : Nat) : Int) + (i : Nat) * -1 = ((min (m + 1) k - i : Nat) : Int) by omega]
            rfl
          rw [e] at r4
          exact nil_of (app_of mo_RT (h1.grow mo_RT ((Ex.nw hp).tr e4)) r4 (by omega) fun H5 b5 e5 => ⟨_, rfl, b5, (h2.tr ((Ex.nw hp).tr e4)).trS e5, by rw [List.length_append]; show _ + 1 ≤ _; omega⟩)
        · obtain ⟨u3, rfl, h1, h2, h3⟩ := h
          rw [foldl_snoc (fun r => ((min (m + 1) k - i : Nat) : Int) :: r)] at h1 h3
          rw [← range_flat (fun i => (parts f (m + 1 - (min (m + 1) k - i)) (min (m + 1) k - i)).map fun r => ((min (m + 1) k - i : Nat) : Int) :: r)] at h1 h3
          exact ⟨_, _, rfl, h1, by rw [Nat.add_mul, Nat.one_mul]; omega⟩
      · obtain ⟨u1, u2, rfl, hB, hL⟩ := hI
        have e : (((min (m + 1) k : Nat) : Int) - 0).toNat = min (m + 1) k := by omega
        rw [e] at hB
        exact ⟨_, rfl, hQ _ _ hB.ex hB.newL⟩
theorem sc_partitions_below : FnScope ["n", "most", "out", "first", "rest"] ["n", "most"] (defScope (top 18)) := ⟨rfl, rfl, rfl, by decide +kernel, rfl, by decide +kernel, by decide +kernel⟩
theorem ok_partitions_below (T : Tx K mg) (n : Nat) : Cal P w K mg base (n + 0) "_partitions_below" ["n", "most"] [] (spParts n) := by
  obtain ⟨fd, F⟩ := T.d 3 _ rfl
  have sc := sc_partitions_below
  have bd : Binds K fd ["n", "most"] [] := FunD.bindsN F (fun _ _ _ _ _ _ us hl => match us, hl with | [_, _], _ => rfl)
  refine ⟨_, fd, [], ?_, T.g "_partitions_below" (by decide +kernel), F.kp, bd, .nil⟩
  induction n with
  | zero => exact FnOk.vac fun vs H Q E h => by obtain ⟨_, _, _, _, h, _⟩ := h; exact absurd h (Nat.not_lt_zero _)
  | succ n ih =>
    have c_rec : Cal P w K mg base (n + 0) "_partitions_below" ["n", "most"] [] (spParts n) := ⟨_, fd, [], ih, T.g "_partitions_below" (by decide +kernel), F.kp, bd, .nil⟩
    rw [show n + 1 + 0 = (n + 0) + 1 by omega]
    refine FunD.ok (k := n + 0) F sc (fun vs H Q E h => by obtain ⟨_, _, _, rfl, _⟩ := h; rfl) (fun cdv A outer s H vs Q E hr h => ⟨_, PSs.nox ((pss_cons (ps_if (pt_cmpR op_eq (pv 0) pe_int (nomark _))
  (pss_one (ps_ret (pe_lst (pa_cons (pe_tup pa_nil) pa_nil)))) pss_nil)
  (pss_cons (ps_set (i := 2) sc.nd rfl (Or.inl rfl) (pe_lst pa_nil))
  (pss_cons (ps_for PassesOwn.never rfl (pi_range3 rfl (T.f "range" (by decide +kernel)) (pa_cons (pe_callB (call_min2 rfl) (by rfl) (T.f "min" (by decide +kernel)) (by decide +kernel) (pa_cons (pv 0) (pa_cons (pv 1) pa_nil))) (pa_cons pe_int (pa_cons (pe_un un_neg pe_int) pa_nil)))) (pg_name (i := 3) sc.nd rfl (Or.inl rfl))
  (pss_one (ps_for PassesOwn.never rfl (pi_list (pe_cg c_rec hr (pa_cons (pe_op op_sub (pv 0) (pv 3)) (pa_cons (pv 3) pa_nil)))) (pg_name (i := 4) sc.nd rfl (Or.inl rfl))
  (pss_one (ps_expr (pe_bm PySem.F.plainAttrs_list PySem.F.slot_list_append PySem.F.type_list_append mt_append (pv 2) (pa_cons (pe_op op_catA (pe_tup (pa_cons (pv 3) pa_nil)) (pv 4)) pa_nil)))))))
  (pss_one (ps_ret (pv 2))))))), ?_⟩)
    obtain ⟨f, m, k, rfl, hn, hmf, hf, hk, hQ⟩ := h
    refine ⟨_, rfl, rfl, _, rfl, ?_⟩
    cases m with
    | zero =>
      have e0 : parts f 0 k = [[]] := by cases f <;> rfl
      rw [e0] at hQ
      refine iteT ⟨t0, fun p hp => ⟨t1, fun l hl => ?_⟩⟩
      exact hQ _ _ ((Ex.nw hp).tr (.nw hl)) ⟨l, _, rfl, (Ex.nw hp).fr hl, upd_same, .cons ⟨p, rfl, by rw [upd_ne (fun z => by rw [z] at hl; rw [upd_same] at hl; cases hl), upd_same]; rfl⟩ .nil⟩
    | succ m =>
      cases f with
      | zero => omega
      | succ f =>
      refine ifF (eqI_f (by omega)) ⟨t0, fun D hD => ⟨_, rfl, _, rfl, _, _, rfl, ?_⟩⟩
      have em : (if (k : Int) < ((m + 1 : Nat) : Int) then (k : Int) else ((m + 1 : Nat) : Int)) = ((min (m + 1) k : Nat) : Int) := by split <;> omega
      rw [em]
      refine ⟨_, rfl, _, 0, -1, _, rfl, RgC.neg (by omega) (by omega) (by omega) (by omega), ?_⟩
      refine for_rangeC (fun i σ H' => ∃ u1 u2, σ = [some (.int ((m + 1 : Nat) : Int)), some (.int (k : Int)), some (.ref D), u1, u2] ∧ Bl RT H D ((List.range i).flatMap (fun i => (parts f (m + 1 - (min (m + 1) k - i)) (min (m + 1) k - i)).map fun r => ((min (m + 1) k - i : Nat) : Int) :: r)) H' ∧ ((List.range i).flatMap (fun i => (parts f (m + 1 - (min (m + 1) k - i)) (min (m + 1) k - i)).map fun r => ((min (m + 1) k - i : Nat) : Int) :: r)).length ≤ i * 1000) ⟨none, none, rfl, .new hD, by simp⟩ (fun i σ H1 hi hI => ?_) fun σ H1 hI => ?_
      · obtain ⟨u1, u2, rfl, hB, hL⟩ := hI
        have le := parts_len f (by omega) (m + 1 - (min (m + 1) k - i)) (by omega) (min (m + 1) k - i) (by omega)
        have le1 := le.1
        refine ⟨_, rfl, _, rfl, _, _, rfl, rfl, _, rfl, f, m + 1 - (min (m + 1) k - i), min (m + 1) k - i, lst2 (vint (by omega)) (vint (by omega)), by omega, by omega, by omega, by omega, fun v H2 e2 hv => ?_⟩
        obtain ⟨l, us, rfl, hl, hl2, hA⟩ := hv
        have hlD : l ≠ D := new_ne hB hl
        have B2 := hB.grow mo_RT e2
        refine ⟨l, rfl, ⟨_, SqL.of hl2⟩, ?_⟩
        refine for_seqL hA mo_RT (fun s r => s ++ [((min (m + 1) k - i : Nat) : Int) :: r]) _ (fun j s σ H3 => ∃ u3, σ = [some (.int ((m + 1 : Nat) : Int)), some (.int (k : Int)), some (.ref D), some (.int (((min (m + 1) k : Nat) : Int) + (i : Nat) * -1)), u3] ∧ Bl RT H D s H3 ∧ ExS [D] H2 H3 ∧ s.length ≤ i * 1000 + j) ⟨u2, rfl, B2, .rf, hL⟩
          (fun j s σ H3 h => by
            obtain ⟨u3, rfl, h1, h2, h3⟩ := h
            exact ⟨SqL.of (h2 l _ (fun z => hlD (List.mem_singleton.mp z)) hl2), B2.imm h2⟩)
          (fun j s r x σ H3 hj hx h => ?_) fun σ H3 h => ?_
        · obtain ⟨u3, rfl, h1, h2, h3⟩ := h
          have j1 := (List.getElem?_eq_some_iff.mp hj).1
          have rl : r.length ≤ 1000 := Nat.le_trans (le.2 r (List.mem_of_getElem? hj)) (by omega)
          refine ⟨_, rfl, Or.inl ⟨rfl, h1.sql⟩, ⟨_, rfl, t1, fun p hp => ⟨_, rfl, cat_of (xs := [((min (m + 1) k : Nat) : Int) + (i : Nat) * -1]) (RT.mk upd_same) (mo_RT (.nw hp) hx) (by show 1 + r.length ≤ _; omega) fun v H4 e4 r4 => ?_⟩⟩⟩
          have e : [((min (m + 1) k : Nat) : Int) + (i : Nat) * -1] ++ r = ((min (m + 1) k - i : Nat) : Int) :: r := by
            rw [show ((min (m + 1) k : Nat) : Int) + (i : Nat) * -1 = ((min (m + 1) k - i : Nat) : Int) by omega]
            rfl
          rw [e] at r4
          exact nil_of (app_of mo_RT (h1.grow mo_RT ((Ex.nw hp).tr e4)) r4 (by omega) fun H5 b5 e5 => ⟨_, rfl, b5, (h2.tr ((Ex.nw hp).tr e4)).trS e5, by rw [List.length_append]; show _ + 1 ≤ _; omega⟩)
        · obtain ⟨u3, rfl, h1, h2, h3⟩ := h
          rw [foldl_snoc (fun r => ((min (m + 1) k - i : Nat) : Int) :: r)] at h1 h3
          rw [← range_flat (fun i => (parts f (m + 1 - (min (m + 1) k - i)) (min (m + 1) k - i)).map fun r => ((min (m + 1) k - i : Nat) : Int) :: r)] at h1 h3
          exact ⟨_, _, rfl, h1, by rw [Nat.add_mul, Nat.one_mul]; omega⟩
      · obtain ⟨u1, u2, rfl, hB, hL⟩ := hI
        have e : (((min (m + 1) k : Nat) : Int) - 0).toNat = min (m + 1) k := by omega
        rw [e] at hB
        exact ⟨_, rfl, hQ _ _ hB.ex hB.newL⟩
end
end FB
namespace FB
open PySem PySem.Spec PyProof.Rows L2 SF FR
section
variable {P : Program} {w : World} {K : PySem.W.Frag} {mg : Str → Option Value} {base : Heap}
theorem cut1 (x : V) (xs : List V) : cutV (x :: xs) (some 1) none = xs := by
  unfold cutV
  rw [HT.sIx_none, show HT.sIx (x :: xs).length 0 (some 1) = 1 from by
    have := HT.sIx_nat (x :: xs).length 0 1
    rw [show ((1 : Nat) : Int) = 1 from rfl] at this
    rw [this, List.length_cons]
    omega]
  rw [List.drop_one, List.tail_cons, List.length_cons]
  exact List.take_of_length_le (by omega)
theorem len_flat {α : Type} (F : Nat → List α) (B : Nat) : ∀ n, (∀ i, i < n → (F i).length ≤ B) → ((List.range n).flatMap F).length ≤ n * B
  | 0, _ => by simp
  | n + 1, h => by
    rw [range_flat, List.length_append, Nat.add_mul, Nat.one_mul]
    have h1 := len_flat F B n fun i hi => h i (by omega)
    have h2 := h n (by omega)
    omega
theorem rows_len : ∀ (ls hs : Pt) (t : Int), (∀ x ∈ ls, 0 ≤ x) → (∀ x ∈ hs, x ≤ 8) → (rows ls hs t).length ≤ 9 ^ ls.length
  | [], hs, t, _, _ => by
    unfold rows
    split <;> simp
  | l :: ls, [], t, _, _ => by unfold rows; simp
  | l :: ls, h :: hs, t, h1, h2 => by
    unfold rows
    have a1 := h1 l (List.mem_cons_self ..)
    have a2 := h2 h (List.mem_cons_self ..)
    have z := len_flat (fun (i : Nat) => (rows ls hs (t - (h - (i : Int)))).map fun r => (h - (i : Int)) :: r) (9 ^ ls.length) (h - l + 1).toNat (fun i _ => by
      rw [List.length_map]
      exact rows_len ls hs _ (fun x hx => h1 x (List.mem_cons_of_mem _ hx)) (fun x hx => h2 x (List.mem_cons_of_mem _ hx)))
    refine Nat.le_trans z ?_
    rw [List.length_cons, Nat.pow_succ, Nat.mul_comm]
    exact Nat.mul_le_mul_left _ (by omega)
theorem rows_mem : ∀ (ls hs : Pt) (t : Int) (r : Pt), r ∈ rows ls hs t → r.length = ls.length
  | [], hs, t, r, h => by
    unfold rows at h
    split at h
    · rw [List.mem_singleton.mp h]
    · cases h
  | l :: ls, [], t, r, h => by unfold rows at h; cases h
  | l :: ls, h0 :: hs, t, r, h => by
    unfold rows at h
    obtain ⟨i, _, h2⟩ := List.mem_flatMap.mp h
    obtain ⟨r', h3, rfl⟩ := List.mem_map.mp h2
    rw [List.length_cons, List.length_cons, rows_mem ls hs _ r' h3]
def spRows (n : Nat) : Sp := fun vs H Q _ => ∃ (a b : Addr) (ls hs : Pt) (t : Int), vs = [.ref a, .ref b, .int t] ∧ ls.length < n ∧ H a = some (.lst (ls.map V.int)) ∧ H b = some (.lst (hs.map V.int)) ∧ hs.length = ls.length ∧ ls.length ≤ 5 ∧ (∀ x ∈ ls, 0 ≤ x ∧ x ≤ 8) ∧ (∀ x ∈ hs, 0 ≤ x ∧ x ≤ 8) ∧ ∀ v H', Ex H H' → NewL RT H H' v (rows ls hs t) → Q v H'
theorem sc_rows : FnScope ["lows", "highs", "total", "out", "first", "rest"] ["lows", "highs", "total"] (defScope (top 24)) := ⟨rfl, rfl, rfl, by decide +kernel, rfl, by decide +kernel, by decide +kernel⟩
theorem ok_rows (T : Tx K mg) (n : Nat) : Cal P w K mg base (n + 0) "_rows" ["lows", "highs", "total"] [] (spRows n) := by
  obtain ⟨fd, F⟩ := T.d 8 _ rfl
  have sc := sc_rows
  have bd : Binds K fd ["lows", "highs", "total"] [] := FunD.bindsN F (fun _ _ _ _ _ _ us hl => match us, hl with | [_, _, _], _ => rfl)
  refine ⟨_, fd, [], ?_, T.g "_rows" (by decide +kernel), F.kp, bd, .nil⟩
  induction n with
  | zero => exact FnOk.vac fun vs H Q E h => by obtain ⟨_, _, _, _, _, _, h, _⟩ := h; exact absurd h (Nat.not_lt_zero _)
  | succ n ih =>
    have c_rec : Cal P w K mg base (n + 0) "_rows" ["lows", "highs", "total"] [] (spRows n) := ⟨_, fd, [], ih, T.g "_rows" (by decide +kernel), F.kp, bd, .nil⟩
    rw [show n + 1 + 0 = (n + 0) + 1 by omega]
    refine FunD.ok (k := n + 0) F sc (fun vs H Q E h => by obtain ⟨_, _, _, _, _, rfl, _⟩ := h; rfl) (fun cdv A outer s H vs Q E hr h => ⟨_, PSs.nox ((pss_cons (ps_if (pt_cmpR op_eq (pe_callB call_len_seq (by rfl) (T.f "len" (by decide +kernel)) (by decide +kernel) (pa_cons (pv 0) pa_nil)) pe_int (nomark _))
  (pss_one (ps_ret (pe_ifExp (pt_cmpR op_eq (pv 2) pe_int (nomark _)) (pe_lst (pa_cons (pe_tup pa_nil) pa_nil)) (pe_lst pa_nil)))) pss_nil)
  (pss_cons (ps_set (i := 3) sc.nd rfl (Or.inl rfl) (pe_lst pa_nil))
  (pss_cons (ps_for PassesOwn.never rfl (pi_range3 rfl (T.f "range" (by decide +kernel)) (pa_cons (pe_ix ix_list (pv 1) pe_int (fun _ _ => rfl)) (pa_cons (pe_op op_sub (pe_ix ix_list (pv 0) pe_int (fun _ _ => rfl)) pe_int) (pa_cons (pe_un un_neg pe_int) pa_nil)))) (pg_name (i := 4) sc.nd rfl (Or.inl rfl))
  (pss_one (ps_for PassesOwn.never rfl (pi_list (pe_cg c_rec hr (pa_cons (pe_slice sl_list (pv 0) (po_some pe_int) po_none) (pa_cons (pe_slice sl_list (pv 1) (po_some pe_int) po_none) (pa_cons (pe_op op_sub (pv 2) (pv 4)) pa_nil))))) (pg_name (i := 5) sc.nd rfl (Or.inl rfl))
  (pss_one (ps_expr (pe_bm PySem.F.plainAttrs_list PySem.F.slot_list_append PySem.F.type_list_append mt_append (pv 3) (pa_cons (pe_op op_catA (pe_tup (pa_cons (pv 4) pa_nil)) (pv 5)) pa_nil)))))))
  (pss_one (ps_ret (pv 3))))))), ?_⟩)
    obtain ⟨a, b, ls, hs, t, rfl, hn, ha, hb, hlen, h5, hls, hhs, hQ⟩ := h
    refine ⟨_, rfl, a, _, rfl, .inl (SqL.of ha), rfl, _, rfl, ?_⟩
    cases ls with
    | nil =>
      refine iteT ⟨_, rfl, rfl, _, rfl, ?_⟩
      have er : rows [] hs t = if t = 0 then [[]] else [] := by cases hs <;> rfl
      rw [er] at hQ
      by_cases ht : t = 0
      · rw [if_pos ht] at hQ
        refine ifT (eqI_t ht) ⟨t0, fun p hp => ⟨t1, fun l hl => ?_⟩⟩
        exact hQ _ _ ((Ex.nw hp).tr (.nw hl)) ⟨l, _, rfl, (Ex.nw hp).fr hl, upd_same, .cons ⟨p, rfl, by rw [upd_ne (fun z => by rw [z] at hl; rw [upd_same] at hl; cases hl), upd_same]; rfl⟩ .nil⟩
      · rw [if_neg ht] at hQ
        exact ifF (eqI_f ht) ⟨t0, fun l hl => hQ _ _ (.nw hl) ⟨l, _, rfl, hl, upd_same, .nil⟩⟩
    | cons l0 ls =>
      cases hs with
      | nil => cases hlen
      | cons h0 hs =>
      refine ifF (eqI_f (by rw [List.length_map, List.length_cons]; omega)) ⟨t0, fun D hD => ?_⟩
      have a1 := hls l0 (List.mem_cons_self ..)
      have a2 := hhs h0 (List.mem_cons_self ..)
      have ls1 := fun x hx => hls x (List.mem_cons_of_mem _ hx)
      have hs1 := fun x hx => hhs x (List.mem_cons_of_mem _ hx)
      rw [List.length_cons] at hn h5
      have hlen' : hs.length = ls.length := Nat.succ.inj hlen
      refine ⟨_, rfl, b, _, 0, _, rfl, rfl, SqL.of (upd_new hD hb), atI_nat rfl, _, rfl, a, _, 0, _, rfl, rfl, SqL.of (upd_new hD ha), atI_nat rfl, _, _, rfl, rfl, _, rfl, _, _, -1, _, rfl, RgC.neg (by omega) (by omega) (by omega) (by omega), ?_⟩
      refine for_rangeC (fun i σ H' => ∃ u1 u2, σ = [some (.ref a), some (.ref b), some (.int t), some (.ref D), u1, u2] ∧ Bl RT H D ((List.range i).flatMap (fun (i : Nat) => (rows ls hs (t - (h0 - (i : Int)))).map fun r => (h0 - (i : Int)) :: r)) H' ∧ ((List.range i).flatMap (fun (i : Nat) => (rows ls hs (t - (h0 - (i : Int)))).map fun r => (h0 - (i : Int)) :: r)).length ≤ i * 6561) ⟨none, none, rfl, .new hD, by simp⟩ (fun i σ H1 hi hI => ?_) fun σ H1 hI => ?_
      · obtain ⟨u1, u2, rfl, hB, hL⟩ := hI
        refine ⟨_, rfl, _, rfl, a, _, rfl, SqL.of (hB.ex _ _ ha), fun p1 hp1 => ⟨_, rfl, _, rfl, b, _, rfl, SqL.of (upd_new hp1 (hB.ex _ _ hb)), fun p2 hp2 => ⟨_, rfl, _, rfl, _, _, rfl, rfl, p1, p2, ls, hs, t - (h0 - (i : Int)), lst3 rfl rfl (vint (by omega)), by omega, upd_new hp2 (by rw [upd_same]; show some (HO.lst (cutV (V.int l0 :: ls.map V.int) (some 1) none)) = _; rw [cut1]), by rw [upd_same]; show some (HO.lst (cutV (V.int h0 :: hs.map V.int) (some 1) none)) = _; rw [cut1], hlen', by omega, ls1, hs1, fun v H2 e2' hv' => ?_⟩⟩⟩
        have e12 := (Ex.nw (o := HO.lst (cutV (V.int l0 :: ls.map V.int) (some 1) none)) hp1).tr (Ex.nw (o := HO.lst (cutV (V.int h0 :: hs.map V.int) (some 1) none)) hp2)
        have e2 : Ex H1 H2 := e12.tr e2'
        have hv := NewL.of hv' e12
        have le1 : (rows ls hs (t - (h0 - (i : Int)))).length ≤ 9 ^ 4 := Nat.le_trans (rows_len _ _ _ (fun x hx => (ls1 x hx).1) (fun x hx => (hs1 x hx).2)) (Nat.pow_le_pow_right (by omega) (by omega))
        obtain ⟨l, us, rfl, hl, hl2, hA⟩ := hv
        have hlD : l ≠ D := new_ne hB hl
        have B2 := hB.grow mo_RT e2
        refine ⟨l, rfl, ⟨_, SqL.of hl2⟩, ?_⟩
        refine for_seqL hA mo_RT (fun s r => s ++ [(h0 - (i : Int)) :: r]) _ (fun j s σ H3 => ∃ u3, σ = [some (.ref a), some (.ref b), some (.int t), some (.ref D), some (.int (h0 + (i : Nat) * -1)), u3] ∧ Bl RT H D s H3 ∧ ExS [D] H2 H3 ∧ s.length ≤ i * 6561 + j) ⟨u2, rfl, B2, .rf, hL⟩
          (fun j s σ H3 h => by
            obtain ⟨u3, rfl, h1, h2, h3⟩ := h
            exact ⟨SqL.of (h2 l _ (fun z => hlD (List.mem_singleton.mp z)) hl2), B2.imm h2⟩)
          (fun j s r x σ H3 hj hx h => ?_) fun σ H3 h => ?_
        · obtain ⟨u3, rfl, h1, h2, h3⟩ := h
          have j1 := (List.getElem?_eq_some_iff.mp hj).1
          have rl : r.length ≤ 1000 := by rw [rows_mem _ _ _ _ (List.mem_of_getElem? hj)]; omega
          refine ⟨_, rfl, Or.inl ⟨rfl, h1.sql⟩, ⟨_, rfl, t1, fun p hp => ⟨_, rfl, cat_of (xs := [h0 + (i : Nat) * -1]) (RT.mk upd_same) (mo_RT (.nw hp) hx) (by show 1 + r.length ≤ _; omega) fun v H4 e4 r4 => ?_⟩⟩⟩
          have e : [h0 + (i : Nat) * -1] ++ r = (h0 - (i : Int)) :: r := by
            rw [show h0 + (i : Nat) * -1 = (h0 - (i : Int)) by omega]
            rfl
          rw [e] at r4
          exact nil_of (app_of mo_RT (h1.grow mo_RT ((Ex.nw hp).tr e4)) r4 (by omega) fun H5 b5 e5 => ⟨_, rfl, b5, (h2.tr ((Ex.nw hp).tr e4)).trS e5, by rw [List.length_append]; show _ + 1 ≤ _; omega⟩)
        · obtain ⟨u3, rfl, h1, h2, h3⟩ := h
          rw [foldl_snoc (fun r => (h0 - (i : Int)) :: r)] at h1 h3
          rw [← range_flat (fun (i : Nat) => (rows ls hs (t - (h0 - (i : Int)))).map fun r => (h0 - (i : Int)) :: r)] at h1 h3
          exact ⟨_, _, rfl, h1, by rw [Nat.add_mul, Nat.one_mul]; omega⟩
      · obtain ⟨u1, u2, rfl, hB, hL⟩ := hI
        have e : (h0 - (l0 - 1)).toNat = (h0 - l0 + 1).toNat := by omega
        rw [e] at hB
        exact ⟨_, rfl, hQ _ _ hB.ex hB.newL⟩
end
end FB
namespace FB
open PySem PySem.Spec PyProof.Rows L2 SF FR
section
variable {P : Program} {w : World} {K : PySem.W.Frag} {mg : Str → Option Value} {base : Heap}
theorem getD_at {l : List Int} {i : Nat} (h : i < l.length) : l.getD i 0 = l[i] := by
  rw [List.getD_eq_getElem?_getD, List.getElem?_eq_getElem h]
  rfl
theorem fm_map {α β : Type} (f : α → β) (xs : List α) : xs.filterMap (fun r => some (f r)) = xs.map f := congrFun List.filterMap_eq_map xs
theorem fm_pos (v : Pt) : v.filterMap (fun x => if 0 < x then some x else none) = pos v := by
  unfold pos
  induction v with
  | nil => rfl
  | cons x v ih =>
    by_cases h : 0 < x
    · rw [List.filterMap_cons_some (by rw [if_pos h]), List.filter_cons_of_pos (by simpa using h), ih]
    · rw [List.filterMap_cons_none (by rw [if_neg h]), List.filter_cons_of_neg (by simpa using h), ih]
theorem insD_perm (x : Int) : ∀ v : Pt, (insD x v).Perm (x :: v)
  | [] => .refl _
  | y :: r => by
    unfold insD
    split
    · exact .refl _
    · exact ((insD_perm x r).cons y).trans (.swap x y r)
theorem sortD_perm : ∀ v : Pt, (sortD v).Perm v
  | [] => .refl _
  | x :: r => (insD_perm x _).trans ((sortD_perm r).cons x)
theorem insD_pw (x : Int) : ∀ v : Pt, v.Pairwise (· ≥ ·) → (insD x v).Pairwise (· ≥ ·)
  | [], _ => List.pairwise_singleton _ _
  | y :: r, h => by
    unfold insD
    obtain ⟨h1, h2⟩ := List.pairwise_cons.mp h
    split
    · rename_i hle
      refine List.pairwise_cons.mpr ⟨fun z hz => ?_, h⟩
      rcases List.mem_cons.mp hz with rfl | hz
      · exact hle
      · exact Int.le_trans (h1 z hz) hle
    · rename_i hle
      refine List.pairwise_cons.mpr ⟨fun z hz => ?_, insD_pw x r h2⟩
      rcases List.mem_cons.mp ((insD_perm x r).mem_iff.mp hz) with rfl | hz
      · show z ≤ y; omega
      · exact h1 z hz
theorem sortD_pw : ∀ v : Pt, (sortD v).Pairwise (· ≥ ·)
  | [] => .nil
  | x :: r => insD_pw x _ (sortD_pw r)
theorem sortD_uniq {v w : Pt} (p : w.Perm v) (o : w.Pairwise (· ≥ ·)) : w = sortD v :=
  List.Perm.eq_of_pairwise (le := (· ≥ ·)) (fun a b _ _ h1 h2 => Int.le_antisymm h2 h1) o (sortD_pw v) (p.trans (sortD_perm v).symm)
/-- a tuple of .. -/
def RTs {α : Type} (R : Rv α) : Rv (List α) := fun H v xs => ∃ t us, v = .ref t ∧ H t = some (.tup us) ∧ All R H us xs
theorem mo_RTs {α : Type} {R : Rv α} (m : Mo R) : Mo (RTs R) := fun e => fun ⟨t, us, h1, h2, h3⟩ => ⟨t, us, h1, e.tup _ _ h2, h3.mo m e⟩
def spIsInt : Sp := fun vs H Q _ => ∃ i : Int, vs = [.int i] ∧ Q (.bl true) H
theorem sc_is_integer : FnScope ["value"] ["value"] (defScope (top 9)) := ⟨rfl, rfl, rfl, by decide +kernel, rfl, by decide +kernel, by decide +kernel⟩
theorem ok_is_integer (T : Tx K mg) : Cal P w K mg base 1 "is_integer" ["value"] [] (spIsInt) := by
  obtain ⟨fd, F⟩ := T.d 0 _ rfl
  have sc := sc_is_integer
  refine ⟨_, fd, [], FunD.ok (k := 0) F sc (fun vs H Q E h => by obtain ⟨_, rfl, _⟩ := h; rfl) (fun cdv A outer s H vs Q E hr h => ?_), T.g "is_integer" (by decide +kernel), F.kp, FunD.bindsN F (fun _ _ _ _ _ _ us hl => match us, hl with | [_], _ => rfl), .nil⟩
  refine ⟨_, PSs.nox ((pss_one (ps_ret (pe_and (pe_callB call_isi (by rfl) (T.f "isinstance" (by decide +kernel)) (by decide +kernel) (pa_cons (pv 0) (pa_cons (pe_ty (n := "int") (T.f "int" (by decide +kernel))) pa_nil))) (pe_one (pe_not (pe_callB call_isi (by rfl) (T.f "isinstance" (by decide +kernel)) (by decide +kernel) (pa_cons (pv 0) (pa_cons (pe_ty (n := "bool") (T.f "bool" (by decide +kernel))) pa_nil))))))))), ?_⟩
  obtain ⟨i, rfl, hQ⟩ := h
  refine ⟨_, rfl, cls_of (isi_ty (.base (.int _)) (by decide +kernel) ⟨true, rfl, iteT ?_⟩)⟩
  exact ⟨_, rfl, cls_of (isi_ty (.base (.int _)) (by decide +kernel) ⟨false, rfl, hQ⟩)⟩
def spSize : Sp := fun vs H Q _ => ∃ (x : V) (ns : Pt), vs = [x] ∧ RT H x ns ∧ Q (.int ns.sum) H
theorem sc_size : FnScope ["a"] ["a"] (defScope (top 17)) := ⟨rfl, rfl, rfl, by decide +kernel, rfl, by decide +kernel, by decide +kernel⟩
theorem ok_size (T : Tx K mg) : Cal P w K mg base 1 "size" ["a"] [] (spSize) := by
  obtain ⟨fd, F⟩ := T.d 2 _ rfl
  have sc := sc_size
  refine ⟨_, fd, [], FunD.ok (k := 0) F sc (fun vs H Q E h => by obtain ⟨_, _, rfl, _⟩ := h; rfl) (fun cdv A outer s H vs Q E hr h => ?_), T.g "size" (by decide +kernel), F.kp, FunD.bindsN F (fun _ _ _ _ _ _ us hl => match us, hl with | [_], _ => rfl), .nil⟩
  refine ⟨_, PSs.nox ((pss_one (ps_ret (pe_callB (cr_sumU rfl) (by rfl) (T.f "sum" (by decide +kernel)) (by decide +kernel) (pa_cons (pv 0) pa_nil))))), ?_⟩
  obtain ⟨x, ns, rfl, ⟨t, rfl, ht⟩, hQ⟩ := h
  exact ⟨_, rfl, t, ns, rfl, SqT.of ht, hQ⟩
/-- a tuple of whole numbers that the run made, or one of the written part -/
def RS (K : PySem.W.Frag) : Rv Pt := fun H v ns => ∃ t, v = .ref t ∧ (H t = some (.tup (ns.map V.int)) ∨ ∀ H2, SqT K H2 t (ns.map V.int))
theorem mo_RS : Mo (RS K) := fun e => fun ⟨t, h1, h2⟩ => ⟨t, h1, h2.imp (fun z => e.tup _ _ z) id⟩
theorem RT.rs {H : Hp} {v : V} {ns : Pt} (h : RT H v ns) : RS K H v ns := by
  obtain ⟨t, h1, h2⟩ := h
  exact ⟨t, h1, .inl h2⟩
theorem RS.at {H : Hp} {v : V} {ns : Pt} (h : RS K H v ns) : ∃ t, v = .ref t ∧ ∀ H2, Ex H H2 → SqT K H2 t (ns.map V.int) := by
  obtain ⟨t, h1, h2⟩ := h
  exact ⟨t, h1, fun H2 e => h2.elim (fun z => SqT.of (e _ _ z)) fun z => z H2⟩
def spPartAt (K : PySem.W.Frag) : Sp := fun vs H Q _ => ∃ (x : V) (ns : Pt), vs = [x, .int 0] ∧ RS K H x ns ∧ Q (.int (ns.headD 0)) H
theorem sc_part_at : FnScope ["a", "i"] ["a", "i"] (defScope (top 20)) := ⟨rfl, rfl, rfl, by decide +kernel, rfl, by decide +kernel, by decide +kernel⟩
theorem ok_part_at (T : Tx K mg) : Cal P w K mg base 1 "part_at" ["a", "i"] [] (spPartAt K) := by
  obtain ⟨fd, F⟩ := T.d 5 _ rfl
  have sc := sc_part_at
  refine ⟨_, fd, [], FunD.ok (k := 0) F sc (fun vs H Q E h => by obtain ⟨_, _, rfl, _⟩ := h; rfl) (fun cdv A outer s H vs Q E hr h => ?_), T.g "part_at" (by decide +kernel), F.kp, FunD.bindsN F (fun _ _ _ _ _ _ us hl => match us, hl with | [_, _], _ => rfl), .nil⟩
  refine ⟨_, PSs.nox ((pss_one (ps_ret (pe_ifExp (pt_cmpR op_lt (pv 1) (pe_callB call_len_seq (by rfl) (T.f "len" (by decide +kernel)) (by decide +kernel) (pa_cons (pv 0) pa_nil)) (nomark _)) (pe_ix ix_tup (pv 0) (pv 1) (fun _ _ => rfl)) pe_int)))), ?_⟩
  obtain ⟨x, ns, rfl, hx, hQ⟩ := h
  obtain ⟨t, rfl, hs⟩ := hx.at
  have ht := hs H .rf
  refine ⟨_, rfl, _, rfl, t, _, rfl, .inr (ht), _, _, rfl, rfl, _, rfl, ?_⟩
  cases ns with
  | nil => exact ifF (decide_eq_false (by show ¬ (0 : Int) < 0; omega)) hQ
  | cons n ns => exact ifT (decide_eq_true (by rw [List.length_map, List.length_cons]; omega)) ⟨_, rfl, _, rfl, t, _, 0, _, rfl, rfl, ht, atI_nat (j := 0) rfl, hQ⟩
def spTrim : Sp := fun vs H Q _ => ∃ (x : V) (ns : Pt), vs = [x] ∧ RT H x ns ∧ ns.length ≤ 1000 ∧ ∀ v H', Ex H H' → RT H' v (pos ns) → Q v H'
theorem sc_trimmed : FnScope ["row", "part"] ["row"] (defScope (top 23)) := ⟨rfl, rfl, rfl, by decide +kernel, rfl, by decide +kernel, by decide +kernel⟩
theorem ok_trimmed (T : Tx K mg) : Cal P w K mg base 1 "_trimmed" ["row"] [] (spTrim) := by
  obtain ⟨fd, F⟩ := T.d 7 _ rfl
  have sc := sc_trimmed
  refine ⟨_, fd, [], FunD.ok (k := 0) F sc (fun vs H Q E h => by obtain ⟨_, _, rfl, _⟩ := h; rfl) (fun cdv A outer s H vs Q E hr h => ?_), T.g "_trimmed" (by decide +kernel), F.kp, FunD.bindsN F (fun _ _ _ _ _ _ us hl => match us, hl with | [_], _ => rfl), .nil⟩
  refine ⟨_, PSs.nox ((pss_one (ps_ret (pe_callTy call_tuple_of (by rfl) (T.f "tuple" (by decide +kernel)) (by decide +kernel) (pa_cons (pe_lc (own := [("part", 1)]) rfl sc.nd (pi_tup (pv 0)) (blkOk_by (N := ["row", "part"]) (sc := defScope (top 23)) (by decide +kernel)) (fun _ _ _ _ _ => (pg_name (i := 1) sc.nd rfl (Or.inl rfl))) (fun _ _ _ _ _ => (pts_one (pt_cmpR op_gt (pv 1) pe_int (nomark _)))) (fun _ _ _ _ _ => (pv 1))) pa_nil))))), ?_⟩
  obtain ⟨x, ns, rfl, ⟨t, rfl, ht⟩, hl, hQ⟩ := h
  refine ⟨_, rfl, t, rfl, ⟨_, SqT.of ht⟩, fun D hD => ?_⟩
  refine lc_seqT (SqT.of ht) (all_ints H ns) (fun x => if 0 < x then some x else none) mo_RI mo_RI (by omega) (fun i d x H3 C N hd e3 hx c1 c2 => ?_) hD (fun H3 acc e3 h3 hAc => ?_)
  · have hx' : x = .int d := hx
    subst hx'
    refine ⟨rfl, _, rfl, _, _, rfl, rfl, _, rfl, ?_⟩
    by_cases hp : 0 < d
    · exact ifT (decide_eq_true hp) ⟨_, rfl, c1 d _ _ (if_pos hp) .rf rfl⟩
    · exact ifF (decide_eq_false hp) (c2 (if_neg hp) _ .rf)
  · rw [fm_pos] at hAc
    have ea := all_RI hAc
    exact ⟨D, _, rfl, .inl ⟨SqL.of h3, fun l hl => hQ _ _ (e3.tr (.nw hl)) ⟨l, rfl, by rw [upd_same, ea]⟩⟩⟩
def spDesc : Sp := fun vs H Q _ => ∃ (x : V) (ns : Pt), vs = [x] ∧ RT H x ns ∧ ns.length ≤ 1000 ∧ ∀ v H', Ex H H' → RT H' v (desc ns) → Q v H'
theorem sc_descending : FnScope ["exponent", "item"] ["exponent"] (defScope (top 45)) := ⟨rfl, rfl, rfl, by decide +kernel, rfl, by decide +kernel, by decide +kernel⟩
theorem ok_descending (T : Tx K mg) : Cal P w K mg base 1 "descending" ["exponent"] [] (spDesc) := by
  obtain ⟨fd, F⟩ := T.d 17 _ rfl
  have sc := sc_descending
  refine ⟨_, fd, [], FunD.ok (k := 0) F sc (fun vs H Q E h => by obtain ⟨_, _, rfl, _⟩ := h; rfl) (fun cdv A outer s H vs Q E hr h => ?_), T.g "descending" (by decide +kernel), F.kp, FunD.bindsN F (fun _ _ _ _ _ _ us hl => match us, hl with | [_], _ => rfl), .nil⟩
  refine ⟨_, PSs.nox ((pss_one (ps_ret (pe_callTy call_tuple_of (by rfl) (T.f "tuple" (by decide +kernel)) (by decide +kernel) (pa_cons (pe_callBK (cr_sortedRev (b := true)) (by rfl) (T.f "sorted" (by decide +kernel)) (by decide +kernel) (pa_cons (pe_lc (own := [("item", 1)]) rfl sc.nd (pi_tup (pv 0)) (blkOk_by (N := ["exponent", "item"]) (sc := defScope (top 45)) (by decide +kernel)) (fun _ _ _ _ _ => (pg_name (i := 1) sc.nd rfl (Or.inl rfl))) (fun _ _ _ _ _ => (pts_one (pt_cmpR op_gt (pv 1) pe_int (nomark _)))) (fun _ _ _ _ _ => (pv 1))) pa_nil) (pk_cons pe_bl pk_nil)) pa_nil))))), ?_⟩
  obtain ⟨x, ns, rfl, ⟨t, rfl, ht⟩, hl, hQ⟩ := h
  refine ⟨_, rfl, t, rfl, ⟨_, SqT.of ht⟩, fun D hD => ?_⟩
  refine lc_seqT (SqT.of ht) (all_ints H ns) (fun x => if 0 < x then some x else none) mo_RI mo_RI (by omega) (fun i d x H3 C N hd e3 hx c1 c2 => ?_) hD (fun H3 acc e3 h3 hAc => ?_)
  · have hx' : x = .int d := hx
    subst hx'
    refine ⟨rfl, _, rfl, _, _, rfl, rfl, _, rfl, ?_⟩
    by_cases hp : 0 < d
    · exact ifT (decide_eq_true hp) ⟨_, rfl, c1 d _ _ (if_pos hp) .rf rfl⟩
    · exact ifF (decide_eq_false hp) (c2 (if_neg hp) _ .rf)
  · rw [fm_pos] at hAc
    have ea := all_RI hAc
    subst ea
    refine ⟨D, pos ns, rfl, rfl, SqL.of h3, fun ns' p pm od hp => ?_⟩
    have es : ns' = desc ns := sortD_uniq pm od
    subst es
    exact ⟨p, _, rfl, .inl ⟨SqL.of upd_same, fun l hl => hQ _ _ (e3.tr ((Ex.nw hp).tr (.nw hl))) ⟨l, rfl, upd_same⟩⟩⟩
def spHolds : Sp := fun vs H Q _ => ∃ (x y : V) (a b : Pt), vs = [x, y] ∧ RT H x a ∧ RT H y b ∧ b.length ≤ 1000 ∧ ∀ H', Ex H H' → Q (.bl (SF.holds a b)) H'
theorem holds_len : ∀ (b a : Pt), b.length ≤ a.length → decide (((List.range b.length).filterMap (fun i => if b.getD i 0 > a.getD i 0 then some (i : Int) else none)).length = 0) = (List.zipWith (fun x y => decide (x > y)) b a).all (! ·) := by
  intro b a h
  rw [Bool.eq_iff_iff, decide_eq_true_eq, List.length_eq_zero_iff, List.filterMap_eq_nil_iff, List.all_eq_true]
  constructor
  · intro g z hz
    obtain ⟨i, hi, e⟩ := List.mem_iff_getElem.mp hz
    have hi' : i < b.length := by rw [List.length_zipWith] at hi; omega
    have ha' : i < a.length := by omega
    have := g i (List.mem_range.mpr hi')
    rw [getD_at hi', getD_at ha'] at this
    rw [List.getElem_zipWith] at e
    rw [← e]
    by_cases c : b[i] > a[i]
    · rw [if_pos c] at this; cases this
    · rw [decide_eq_false c]; rfl
  · intro g i hi
    have hi' : i < b.length := List.mem_range.mp hi
    have ha' : i < a.length := by omega
    have hz : i < (List.zipWith (fun x y => decide (x > y)) b a).length := by rw [List.length_zipWith]; omega
    have := g _ (List.getElem_mem hz)
    rw [List.getElem_zipWith] at this
    rw [getD_at hi', getD_at ha']
    by_cases c : b[i] > a[i]
    · rw [decide_eq_true c] at this; cases this
    · rw [if_neg c]
theorem sc_holds : FnScope ["a", "b", "i"] ["a", "b"] (defScope (top 22)) := ⟨rfl, rfl, rfl, by decide +kernel, rfl, by decide +kernel, by decide +kernel⟩
theorem ok_holds (T : Tx K mg) : Cal P w K mg base 1 "holds" ["a", "b"] [] (spHolds) := by
  obtain ⟨fd, F⟩ := T.d 6 _ rfl
  have sc := sc_holds
  refine ⟨_, fd, [], FunD.ok (k := 0) F sc (fun vs H Q E h => by obtain ⟨_, _, _, _, rfl, _⟩ := h; rfl) (fun cdv A outer s H vs Q E hr h => ?_), T.g "holds" (by decide +kernel), F.kp, FunD.bindsN F (fun _ _ _ _ _ _ us hl => match us, hl with | [_, _], _ => rfl), .nil⟩
  refine ⟨_, PSs.nox ((pss_cons (ps_if (pt_cmpR op_gt (pe_callB call_len_seq (by rfl) (T.f "len" (by decide +kernel)) (by decide +kernel) (pa_cons (pv 1) pa_nil)) (pe_callB call_len_seq (by rfl) (T.f "len" (by decide +kernel)) (by decide +kernel) (pa_cons (pv 0) pa_nil)) (nomark _))
  (pss_one (ps_ret pe_bl)) pss_nil)
  (pss_one (ps_ret (pe_cmpR op_eq (pe_callB call_len_seq (by rfl) (T.f "len" (by decide +kernel)) (by decide +kernel) (pa_cons (pe_lc (own := [("i", 2)]) rfl sc.nd (pi_range1 rfl (T.f "range" (by decide +kernel)) (pa_cons (pe_callB call_len_seq (by rfl) (T.f "len" (by decide +kernel)) (by decide +kernel) (pa_cons (pv 1) pa_nil)) pa_nil)) (blkOk_by (N := ["a", "b", "i"]) (sc := defScope (top 22)) (by decide +kernel)) (fun _ _ _ _ _ => (pg_name (i := 2) sc.nd rfl (Or.inl rfl))) (fun _ _ _ _ _ => (pts_one (pt_cmpR op_gt (pe_ix (ix_tupK (K := K)) (pv 1) (pv 2) (fun _ _ => rfl)) (pe_ix (ix_tupK (K := K)) (pv 0) (pv 2) (fun _ _ => rfl)) (nomark _)))) (fun _ _ _ _ _ => (pv 2))) pa_nil)) pe_int (nomark _)))))), ?_⟩
  obtain ⟨x, y, a, b, rfl, ⟨t, rfl, ht⟩, ⟨u, rfl, hu⟩, hl, hQ⟩ := h
  refine ⟨_, rfl, u, _, rfl, .inr (SqT.of hu), _, rfl, t, _, rfl, .inr (SqT.of ht), _, _, rfl, rfl, _, rfl, ?_⟩
  rw [List.length_map, List.length_map]
  by_cases hc : b.length > a.length
  · refine ifT (decide_eq_true (by omega)) ?_
    have e : SF.holds a b = false := by unfold SF.holds; rw [if_pos hc]
    rw [e] at hQ
    exact hQ _ .rf
  · refine ifF (decide_eq_false (by omega)) ?_
    refine ⟨_, rfl, u, _, rfl, .inr (SqT.of hu), _, rfl, by rw [List.length_map]; omega, by rw [List.length_map]; omega, fun L hL => ?_⟩
    rw [List.length_map, Int.toNat_natCast]
    refine lc_rng (n := b.length) (fun i => if b.getD i 0 > a.getD i 0 then some (i : Int) else none) mo_RI (by omega) (fun k H3 C N hk e3 c1 c2 => ?_) hL (fun H3 acc e3 h3 hAc => ?_)
    · have k1 : k < a.length := by omega
      refine ⟨rfl, _, rfl, _, rfl, u, _, _, _, rfl, rfl, SqT.of (e3 _ _ hu), by rw [Int.zero_add]; exact atI_nat (v := V.int (b.getD k 0)) (by rw [List.getElem?_map, List.getElem?_eq_getElem hk, getD_at hk]; rfl), ?_⟩
      refine ⟨_, rfl, _, rfl, t, _, _, _, rfl, rfl, SqT.of (e3 _ _ ht), by rw [Int.zero_add]; exact atI_nat (v := V.int (a.getD k 0)) (by rw [List.getElem?_map, List.getElem?_eq_getElem k1, getD_at k1]; rfl), _, _, rfl, rfl, _, rfl, ?_⟩
      by_cases hp : b.getD k 0 > a.getD k 0
      · exact ifT (decide_eq_true hp) ⟨_, rfl, c1 k _ _ (if_pos hp) .rf (by show V.int _ = V.int _; rw [Int.zero_add])⟩
      · exact ifF (decide_eq_false hp) (c2 (if_neg hp) _ .rf)
    · refine ⟨L, _, rfl, .inl (SqL.of h3), rfl, ?_⟩
      have e : decide (V.int (acc.length : Int) = V.int 0) = SF.holds a b := by
        unfold SF.holds
        rw [if_neg hc, ← holds_len b a (by omega), eqI, hAc.len]
        congr 1
        apply propext
        omega
      show Q (.bl (decide (V.int (acc.length : Int) = V.int 0))) H3
      rw [e]
      exact hQ _ e3
end
end FB
namespace FB
open PySem PySem.Spec PyProof.Rows L2 SF FR
section
variable {P : Program} {w : World} {K : PySem.W.Frag} {mg : Str → Option Value} {base : Heap}
def spStrip (K : PySem.W.Frag) : Sp := fun vs H Q _ => ∃ (x : V) (b : Pt) (k : Int), vs = [x, .int k, .bl false] ∧ RS K H x b ∧ b.length ≤ 4 ∧ (∀ y ∈ b, 0 ≤ y ∧ y ≤ 4) ∧ 0 ≤ k ∧ k ≤ 4 ∧ ∀ v H', Ex H H' → RTs RT H' v (withStrip b k) → Q v H'
theorem upd_at {H : Hp} {a b : Addr} {o x : HO} (hb : H b = none) (h : H a = some x) : upd H b o a = some x := upd_new hb h
theorem list_ne {H : Hp} {a b : Addr} {x : HO} (h : H a = some x) (hb : H b = none) : a ≠ b := ne_of_none h hb
theorem sc_with_strip : FnScope ["b", "k", "upright", "lows", "highs", "a", "row"] ["b", "k", "upright"] (defScope (top 25)) := ⟨rfl, rfl, rfl, by decide +kernel, rfl, by decide +kernel, by decide +kernel⟩
theorem ok_with_strip (T : Tx K mg) : Cal P w K mg base 8 "with_strip" ["b", "k", "upright"] [.bl false] (spStrip K) := by
  have c_part_at := ok_part_at (P := P) (w := w) (base := base) T
  have c_rows := ok_rows (P := P) (w := w) (base := base) T 6
  have c_trimmed := ok_trimmed (P := P) (w := w) (base := base) T
  obtain ⟨fd, F⟩ := T.d 9 _ rfl
  have sc := sc_with_strip
  obtain ⟨us, dsv, bd⟩ := FunD.binds0 (ps := ["b", "k", "upright"]) F 2 (by intro z; cases z) rfl (fun _ _ _ _ _ _ us ks h1 h2 => match us, ks, h1, h2 with | [_, _], [_], _, _ => ⟨_, _, _, _, _, _, rfl, rfl, rfl⟩)
  refine ⟨_, fd, _, FunD.ok (k := 7) F sc (fun vs H Q E h => by obtain ⟨_, _, _, rfl, _⟩ := h; rfl) (fun cdv A outer s H vs Q E hr h => ?_), T.g "with_strip" (by decide +kernel), F.kp, bd, dsv⟩
  refine ⟨_, PSs.nox ((pss_cons (ps_if (pt_val (pv 2))
  (pss_one ps_never) pss_nil)
  (pss_cons (ps_set (i := 3) sc.nd rfl (Or.inl rfl) (pe_op op_cat (pe_callTy call_list_of (by rfl) (T.f "list" (by decide +kernel)) (by decide +kernel) (pa_cons (pv 0) pa_nil)) (pe_lst (pa_cons pe_int pa_nil))))
  (pss_cons (ps_set (i := 4) sc.nd rfl (Or.inl rfl) (pe_op op_cat (pe_lst (pa_cons (pe_op op_add (pe_cg c_part_at (hr.mono (by decide)) (pa_cons (pv 0) (pa_cons pe_int pa_nil))) (pv 1)) pa_nil)) (pe_callTy call_list_of (by rfl) (T.f "list" (by decide +kernel)) (by decide +kernel) (pa_cons (pv 0) pa_nil))))
  (pss_one (ps_ret (pe_callTy call_tuple_of (by rfl) (T.f "tuple" (by decide +kernel)) (by decide +kernel) (pa_cons (pe_lc (own := [("row", 6)]) rfl sc.nd (pi_list (pe_cg c_rows (hr.mono (by decide)) (pa_cons (pv 3) (pa_cons (pv 4) (pa_cons (pe_op op_add (pe_callB (cr_sumU rfl) (by rfl) (T.f "sum" (by decide +kernel)) (by decide +kernel) (pa_cons (pv 0) pa_nil)) (pv 1)) pa_nil))))) (blkOk_by (N := ["b", "k", "upright", "lows", "highs", "a", "row"]) (sc := defScope (top 25)) (by decide +kernel)) (fun _ _ _ _ _ => (pg_name (i := 6) sc.nd rfl (Or.inl rfl))) (fun _ _ _ _ _ => pts_nil) (fun _ _ _ _ _ => (pe_cg c_trimmed (hr.mono (by decide)) (pa_cons (pv 6) pa_nil)))) pa_nil)))))))), ?_⟩
  obtain ⟨x, b, k, rfl, hx, hl, hb, hk0, hk4, hQ⟩ := h
  obtain ⟨t, rfl, hs⟩ := hx.at
  refine ⟨_, rfl, _, rfl, iteF ?_⟩
  refine ⟨_, rfl, t, _, rfl, .inr (hs _ .rf), fun l1 hl1 => ⟨t1, fun l2 hl2 => ?_⟩⟩
  have e1 := Ex.nw (o := HO.lst (b.map V.int)) hl1
  have e2 := e1.tr (Ex.nw (o := HO.lst [V.int 0]) hl2)
  refine ⟨l1, l2, _, _, rfl, rfl, upd_new hl2 upd_same, upd_same, by rw [List.length_map]; exact line_of (by show b.length + 1 ≤ _; omega), fun p hp => ?_⟩
  have e3 := e2.tr (Ex.nw (o := HO.lst (b.map V.int ++ [V.int 0])) hp)
  refine ⟨_, rfl, .ref t, b, rfl, ⟨t, rfl, hx.elim fun t' z => ?_⟩, ?_⟩
  · have ez : t = t' := by cases z.1; rfl
    subst ez
    exact z.2.imp (fun z => e3 _ _ z) id
  refine ⟨_, rfl, _, _, rfl, rfl, t1, fun q1 hq1 => ?_⟩
  have e4 := e3.tr (Ex.nw (o := HO.lst [V.int (b.headD 0 + k)]) hq1)
  refine ⟨_, rfl, t, _, rfl, .inr (hs _ e4), fun q2 hq2 => ?_⟩
  have e5 := e4.tr (Ex.nw (o := HO.lst (b.map V.int)) hq2)
  refine ⟨q1, q2, _, _, rfl, rfl, upd_new hq2 upd_same, upd_same, by rw [List.length_map]; exact line_of (by show 1 + b.length ≤ _; omega), fun q3 hq3 => ?_⟩
  have e6 := e5.tr (Ex.nw (o := HO.lst ([V.int (b.headD 0 + k)] ++ b.map V.int)) hq3)
  refine ⟨_, rfl, _, rfl, _, rfl, t, b, rfl, hs _ e6, _, rfl, _, _, rfl, rfl, ?_⟩
  have hd0 : 0 ≤ b.headD 0 ∧ b.headD 0 ≤ 4 := by
    cases b with
    | nil => exact ⟨by decide, by decide⟩
    | cons y b => exact hb y (List.mem_cons_self ..)
  refine ⟨p, q3, b ++ [0], (b.headD 0 + k) :: b, b.sum + k, rfl, by rw [List.length_append]; show b.length + 1 < 6; omega, upd_new hq3 (upd_new hq2 (upd_new hq1 (by rw [upd_same, List.map_append]; rfl))), by rw [upd_same]; rfl, by rw [List.length_append]; rfl, by rw [List.length_append]; show b.length + 1 ≤ 5; omega, fun y hy => ?_, fun y hy => ?_, fun v H7 e7 hv => ?_⟩
  · rcases List.mem_append.mp hy with hy | hy
    · have := hb y hy; omega
    · rw [List.mem_singleton.mp hy]; omega
  · rcases List.mem_cons.mp hy with rfl | hy
    · omega
    · have := hb y hy; omega
  obtain ⟨l, us, rfl, hl0, hl7, hA⟩ := hv
  refine ⟨l, rfl, ⟨_, SqL.of hl7⟩, fun D hD => ?_⟩
  have le : (rows (b ++ [0]) ((b.headD 0 + k) :: b) (b.sum + k)).length ≤ 9 ^ 5 := by
    refine Nat.le_trans (rows_len _ _ _ (fun y hy => ?_) (fun y hy => ?_)) (Nat.pow_le_pow_right (by omega) (by rw [List.length_append]; show b.length + 1 ≤ 5; omega))
    · rcases List.mem_append.mp hy with hy | hy
      · exact (hb y hy).1
      · rw [List.mem_singleton.mp hy]; omega
    · rcases List.mem_cons.mp hy with rfl | hy
      · omega
      · have := hb y hy; omega
  refine lc_seqL (SqL.of hl7) hA (fun r => some (pos r)) mo_RT mo_RT (by omega) (fun i d x H3 C N hd e3 hx c1 c2 => ?_) hD (fun H3 acc e3 h3 hAc => ?_)
  · refine ⟨rfl, yes_of (iteT ⟨_, rfl, x, d, rfl, hx, ?_, fun v H4 e4 hv => c1 _ _ _ rfl e4 hv⟩)⟩
    rw [rows_mem _ _ _ _ (List.mem_of_getElem? hd), List.length_append]
    show b.length + 1 ≤ 1000
    omega
  · rw [fm_map pos] at hAc
    exact ⟨D, _, rfl, .inl ⟨SqL.of h3, fun l hl => hQ _ _ (e6.tr (e7.tr (e3.tr (.nw hl)))) ⟨l, _, rfl, upd_same, hAc.mo mo_RT (.nw hl)⟩⟩⟩
def spPartitions : Sp := fun vs H Q _ => ∃ n : Nat, vs = [.int (n : Int)] ∧ n ≤ 8 ∧ ∀ v H', Ex H H' → RTs RT H' v (partsOf n) → Q v H'
theorem sc_partitions : FnScope ["n"] ["n"] (defScope (top 19)) := ⟨rfl, rfl, rfl, by decide +kernel, rfl, by decide +kernel, by decide +kernel⟩
theorem ok_partitions (T : Tx K mg) : Cal P w K mg base 10 "partitions" ["n"] [] (spPartitions) := by
  obtain ⟨tmp, hmp⟩ := T.mp
  have c_partitions_below := ok_partitions_below (P := P) (w := w) (base := base) T 9
  obtain ⟨fd, F⟩ := T.d 4 _ rfl
  have sc := sc_partitions
  refine ⟨_, fd, [], FunD.ok (k := 9) F sc (fun vs H Q E h => by obtain ⟨_, rfl, _⟩ := h; rfl) (fun cdv A outer s H vs Q E hr h => ?_), T.g "partitions" (by decide +kernel), F.kp, FunD.bindsN F (fun _ _ _ _ _ _ us hl => match us, hl with | [_], _ => rfl), .nil⟩
  refine ⟨_, PSs.nox ((pss_cons (ps_if (PW.pt (pw_or (pt_not (pt_val (pe_callB call_isi (by rfl) (T.f "isinstance" (by decide +kernel)) (by decide +kernel) (pa_cons (pv 0) (pa_cons (pe_ty (n := "int") (T.f "int" (by decide +kernel))) pa_nil))))) (pw_or (pt_val (pe_callB call_isi (by rfl) (T.f "isinstance" (by decide +kernel)) (by decide +kernel) (pa_cons (pv 0) (pa_cons (pe_ty (n := "bool") (T.f "bool" (by decide +kernel))) pa_nil)))) (pw_or (pt_cmpR op_lt (pv 0) pe_int (nomark _)) (pw_or1 (pt_cmpR op_gt (pv 0) (pe_glob (v := .int 12) rfl hmp ⟨_, rfl⟩) (nomark _)))))))
  (pss_one ps_never) pss_nil)
  (pss_one (ps_ret (pe_callTy call_tuple_of (by rfl) (T.f "tuple" (by decide +kernel)) (by decide +kernel) (pa_cons (pe_cg c_partitions_below (hr.mono (by decide)) (pa_cons (pv 0) (pa_cons (pv 0) pa_nil))) pa_nil)))))), ?_⟩
  obtain ⟨n, rfl, hn, hQ⟩ := h
  refine ⟨_, rfl, cls_of (isi_ty (.base (.int _)) (by decide +kernel) ⟨true, rfl, ifF rfl ?_⟩)⟩
  refine ⟨_, rfl, cls_of (isi_ty (.base (.int _)) (by decide +kernel) ⟨false, rfl, iteF ?_⟩)⟩
  refine ⟨_, rfl, _, _, rfl, rfl, _, rfl, ifF (decide_eq_false (by omega)) ?_⟩
  refine ⟨_, rfl, _, _, rfl, rfl, _, rfl, ifF (decide_eq_false (by omega)) ?_⟩
  refine ⟨_, rfl, _, rfl, n, n, n, lst2 rfl rfl, by omega, by omega, by omega, by omega, fun v H2 e2 hv => ?_⟩
  obtain ⟨l, us, rfl, hl, hl2, hA⟩ := hv
  exact ⟨l, us, rfl, .inl ⟨SqL.of hl2, fun t ht => hQ _ _ (e2.tr (.nw ht)) ⟨t, us, rfl, upd_same, hA.mo mo_RT (.nw ht)⟩⟩⟩
def spCheckL : Sp := fun vs H Q _ => ∃ n : Int, vs = [.int n] ∧ 0 ≤ n ∧ n ≤ 8 ∧ Q .non H
theorem sc_check_letters : FnScope ["n"] ["n"] (defScope (top 30)) := ⟨rfl, rfl, rfl, by decide +kernel, rfl, by decide +kernel, by decide +kernel⟩
theorem ok_check_letters (T : Tx K mg) : Cal P w K mg base 2 "check_letters" ["n"] [] (spCheckL) := by
  obtain ⟨tml, hml⟩ := T.ml
  have c_is_integer := ok_is_integer (P := P) (w := w) (base := base) T
  obtain ⟨fd, F⟩ := T.d 11 _ rfl
  have sc := sc_check_letters
  refine ⟨_, fd, [], FunD.ok (k := 1) F sc (fun vs H Q E h => by obtain ⟨_, rfl, _⟩ := h; rfl) (fun cdv A outer s H vs Q E hr h => ?_), T.g "check_letters" (by decide +kernel), F.kp, FunD.bindsN F (fun _ _ _ _ _ _ us hl => match us, hl with | [_], _ => rfl), .nil⟩
  refine ⟨_, PSs.nox ((pss_cons (ps_if (PW.pt (pw_and (pt_val (pe_cg c_is_integer (hr.mono (by decide)) (pa_cons (pv 0) pa_nil))) (pw_and1 (pt_cmpR op_gt (pv 0) (pe_glob (v := .int 8) rfl hml ⟨_, rfl⟩) (nomark _)))))
  (pss_one ps_never) pss_nil)
  (pss_one (ps_if (PW.pt (pw_or (pt_not (pt_val (pe_cg c_is_integer (hr.mono (by decide)) (pa_cons (pv 0) pa_nil)))) (pw_or1 (pt_cmpR op_lt (pv 0) pe_int (nomark _)))))
  (pss_one ps_never) pss_nil)))), ?_⟩
  obtain ⟨n, rfl, h0, h8, hQ⟩ := h
  refine ⟨_, rfl, n, rfl, _, rfl, iteT ⟨_, rfl, _, _, rfl, rfl, _, rfl, ifF (decide_eq_false (by omega)) ?_⟩⟩
  exact ⟨_, rfl, n, rfl, _, rfl, ifF rfl ⟨_, rfl, _, _, rfl, rfl, _, rfl, ifF (decide_eq_false (by omega)) hQ⟩⟩
def RB : Rv Bool := fun _ v b => v = .bl b
theorem mo_RB : Mo RB := fun _ => fun h => h
theorem all_RB {H : Hp} : ∀ {vs : List V} {bs : List Bool}, All RB H vs bs → vs = bs.map V.bl
  | _, _, .nil => rfl
  | _, _, .cons a t => by rw [List.map_cons, all_RB t, show _ = V.bl _ from a]
def spIsExp : Sp := fun vs H Q _ => ∃ (x : V) (ns : Pt), vs = [.int (ns.length : Int), x] ∧ RT H x ns ∧ (∀ y ∈ ns, 0 ≤ y) ∧ ns.length ≤ 1000 ∧ ∀ H', Ex H H' → Q (.bl true) H'
theorem sc_is_exponent : FnScope ["n", "value", "item"] ["n", "value"] (defScope (top 31)) := ⟨rfl, rfl, rfl, by decide +kernel, rfl, by decide +kernel, by decide +kernel⟩
theorem ok_is_exponent (T : Tx K mg) : Cal P w K mg base 2 "is_exponent" ["n", "value"] [] (spIsExp) := by
  have c_is_integer := ok_is_integer (P := P) (w := w) (base := base) T
  obtain ⟨fd, F⟩ := T.d 12 _ rfl
  have sc := sc_is_exponent
  refine ⟨_, fd, [], FunD.ok (k := 1) F sc (fun vs H Q E h => by obtain ⟨_, _, rfl, _⟩ := h; rfl) (fun cdv A outer s H vs Q E hr h => ?_), T.g "is_exponent" (by decide +kernel), F.kp, FunD.bindsN F (fun _ _ _ _ _ _ us hl => match us, hl with | [_, _], _ => rfl), .nil⟩
  refine ⟨_, PSs.nox ((pss_cons (ps_if (PW.pt (pw_or (pt_not (pt_val (pe_callB call_isi (by rfl) (T.f "isinstance" (by decide +kernel)) (by decide +kernel) (pa_cons (pv 1) (pa_cons (pe_ty (n := "tuple") (T.f "tuple" (by decide +kernel))) pa_nil))))) (pw_or1 (pt_cmpR op_ne (pe_callB call_len_seq (by rfl) (T.f "len" (by decide +kernel)) (by decide +kernel) (pa_cons (pv 1) pa_nil)) (pv 0) (nomark _)))))
  (pss_one (ps_ret pe_bl)) pss_nil)
  (pss_one (ps_ret (pe_callB (cr_all rfl) (by rfl) (T.f "all" (by decide +kernel)) (by decide +kernel) (pa_cons (pe_lc (own := [("item", 2)]) rfl sc.nd (pi_tup (pv 1)) (blkOk_by (N := ["n", "value", "item"]) (sc := defScope (top 31)) (by decide +kernel)) (fun _ _ _ _ _ => (pg_name (i := 2) sc.nd rfl (Or.inl rfl))) (fun _ _ _ _ _ => pts_nil) (fun _ _ _ _ _ => (pe_and (pe_cg c_is_integer (hr.mono (by decide)) (pa_cons (pv 2) pa_nil)) (pe_one (pe_cmpR op_ge (pv 2) pe_int (nomark _)))))) pa_nil)))))), ?_⟩
  obtain ⟨x, ns, rfl, ⟨t, rfl, ht⟩, hns, hl, hQ⟩ := h
  refine ⟨_, rfl, cls_of (isi_ty (.base (.tup ht)) (by decide +kernel) ⟨true, rfl, ifF rfl ?_⟩)⟩
  refine ⟨_, rfl, t, _, rfl, .inr (SqT.of ht), _, rfl, rfl, _, rfl, ?_⟩
  refine ifF (by rw [eqI_t (by rw [List.length_map])]; rfl) ?_
  refine ⟨_, rfl, t, rfl, ⟨_, SqT.of ht⟩, fun D hD => ?_⟩
  refine lc_seqT (SqT.of ht) (all_ints H ns) (fun x => some (decide (0 ≤ x))) mo_RI mo_RB (by omega) (fun i d x H3 C N hd e3 hx c1 c2 => ?_) hD (fun H3 acc e3 h3 hAc => ?_)
  · have hx' : x = .int d := hx
    subst hx'
    exact ⟨rfl, yes_of (iteT ⟨_, rfl, d, rfl, _, rfl, iteT ⟨_, rfl, _, _, rfl, rfl, c1 _ _ _ rfl .rf rfl⟩⟩)⟩
  · rw [fm_map] at hAc
    have ea := all_RB hAc
    subst ea
    refine ⟨D, _, rfl, SqL.of h3, ?_⟩
    have e : (ns.map fun x => decide (0 ≤ x)).all id = true := by
      rw [List.all_map, List.all_eq_true]
      intro y hy
      exact decide_eq_true (hns y hy)
    rw [e]
    exact hQ _ e3
def spAsRatio (K : PySem.W.Frag) : Sp := fun vs H Q _ => ∃ (x : V) (i : Int), vs = [x] ∧ RR K H x i ∧ Q x H
theorem sc_as_ratio : FnScope ["value"] ["value"] (defScope (top 32)) := ⟨rfl, rfl, rfl, by decide +kernel, rfl, by decide +kernel, by decide +kernel⟩
theorem ok_as_ratio (T : Tx K mg) : Cal P w K mg base 1 "as_ratio" ["value"] [] (spAsRatio K) := by
  obtain ⟨fd, F⟩ := T.d 13 _ rfl
  have sc := sc_as_ratio
  refine ⟨_, fd, [], FunD.ok (k := 0) F sc (fun vs H Q E h => by obtain ⟨_, _, rfl, _⟩ := h; rfl) (fun cdv A outer s H vs Q E hr h => ?_), T.g "as_ratio" (by decide +kernel), F.kp, FunD.bindsN F (fun _ _ _ _ _ _ us hl => match us, hl with | [_], _ => rfl), .nil⟩
  refine ⟨_, PSs.nox ((pss_cons (ps_if (pt_val (pe_callB call_isi (by rfl) (T.f "isinstance" (by decide +kernel)) (by decide +kernel) (pa_cons (pv 0) (pa_cons (pe_cls (T.g "Ratio" (by decide +kernel))) pa_nil))))
  (pss_one (ps_ret (pv 0))) pss_nil)
  (pss_cons ps_never
  (pss_one ps_never)))), ?_⟩
  obtain ⟨x, i, rfl, ⟨a, dx, rfl, ha⟩, hQ⟩ := h
  exact ⟨_, rfl, cls_of (isi_own (ty_own T T.cR T.fR ha) T.fR.kit ⟨true, rfl, iteT ⟨_, rfl, hQ⟩⟩)⟩
def OkPt (ns : Pt) : Prop := (∀ y ∈ ns, 1 ≤ y) ∧ ns.Pairwise (· ≥ ·)
def spIsPart : Sp := fun vs H Q _ => ∃ (x : V) (ns : Pt), vs = [x] ∧ RT H x ns ∧ OkPt ns ∧ ns.length ≤ 1000 ∧ Q (.bl true) H
theorem sc_is_partition : FnScope ["value", "before", "part"] ["value"] (defScope (top 16)) := ⟨rfl, rfl, rfl, by decide +kernel, rfl, by decide +kernel, by decide +kernel⟩
theorem ok_is_partition (T : Tx K mg) : Cal P w K mg base 1 "is_partition" ["value"] [] (spIsPart) := by
  obtain ⟨fd, F⟩ := T.d 1 _ rfl
  have sc := sc_is_partition
  refine ⟨_, fd, [], FunD.ok (k := 0) F sc (fun vs H Q E h => by obtain ⟨_, _, rfl, _⟩ := h; rfl) (fun cdv A outer s H vs Q E hr h => ?_), T.g "is_partition" (by decide +kernel), F.kp, FunD.bindsN F (fun _ _ _ _ _ _ us hl => match us, hl with | [_], _ => rfl), .nil⟩
  refine ⟨_, PSs.nox ((pss_cons (ps_if (pt_not (pt_val (pe_callB call_isi (by rfl) (T.f "isinstance" (by decide +kernel)) (by decide +kernel) (pa_cons (pv 0) (pa_cons (pe_ty (n := "tuple") (T.f "tuple" (by decide +kernel))) pa_nil)))))
  (pss_one (ps_ret pe_bl)) pss_nil)
  (pss_cons (ps_set (i := 1) sc.nd rfl (Or.inl rfl) (pe_un un_neg pe_int))
  (pss_cons (ps_for PassesOwn.never rfl (pi_tup (pv 0)) (pg_name (i := 2) sc.nd rfl (Or.inl rfl))
  (pss_cons (ps_if (PW.pt (pw_or (pt_not (pt_val (pe_callB call_isi (by rfl) (T.f "isinstance" (by decide +kernel)) (by decide +kernel) (pa_cons (pv 2) (pa_cons (pe_ty (n := "int") (T.f "int" (by decide +kernel))) pa_nil))))) (pw_or (pt_val (pe_callB call_isi (by rfl) (T.f "isinstance" (by decide +kernel)) (by decide +kernel) (pa_cons (pv 2) (pa_cons (pe_ty (n := "bool") (T.f "bool" (by decide +kernel))) pa_nil)))) (pw_or1 (pt_cmpR op_lt (pv 2) pe_int (nomark _))))))
  (pss_one (ps_ret pe_bl)) pss_nil)
  (pss_cons (ps_if (pt_chain op_le op_lt pe_int (pv 1) (pv 2))
  (pss_one (ps_ret pe_bl)) pss_nil)
  (pss_one (ps_set (i := 1) sc.nd rfl (Or.inl rfl) (pv 2))))))
  (pss_one (ps_ret pe_bl)))))), ?_⟩
  obtain ⟨x, ns, rfl, ⟨t, rfl, ht⟩, ⟨h1, h2⟩, hl, hQ⟩ := h
  refine ⟨_, rfl, cls_of (isi_ty (.base (.tup ht)) (by decide +kernel) ⟨true, rfl, ifF rfl ?_⟩)⟩
  refine ⟨_, rfl, _, rfl, t, rfl, ⟨_, SqT.of ht⟩, ?_⟩
  refine for_seqT (all_ints H ns) mo_RI (fun (_ : Int) d => d) (-1) (fun i s σ H' => ∃ c, σ = [some (.ref t), some (.int s), c] ∧ H' = H ∧ (i = 0 ∧ s = -1 ∨ ∃ j, i = j + 1 ∧ ns[j]? = some s)) ⟨none, rfl, rfl, .inl ⟨rfl, rfl⟩⟩ (fun i s σ H' h => ?_) (fun i s d x σ H' hi hx h => ?_) fun σ H' h => ?_
  · obtain ⟨c, rfl, rfl, _⟩ := h
    exact ⟨SqT.of ht, .rf⟩
  · obtain ⟨c, rfl, rfl, hs⟩ := h
    have hx' : x = .int d := hx
    subst hx'
    have d1 := h1 d (List.mem_of_getElem? hi)
    refine ⟨_, rfl, cls_of (isi_ty (.base (.int _)) (by decide +kernel) ⟨true, rfl, ifF rfl ?_⟩)⟩
    refine ⟨_, rfl, cls_of (isi_ty (.base (.int _)) (by decide +kernel) ⟨false, rfl, iteF ?_⟩)⟩
    refine ⟨_, rfl, _, _, rfl, rfl, _, rfl, ifF (decide_eq_false (by omega)) ?_⟩
    refine ⟨_, rfl, _, _, rfl, rfl, _, rfl, ?_⟩
    have nx : ∀ c', ∃ c, [some (V.ref t), some (V.int d), c'] = [some (V.ref t), some (V.int d), c] ∧ H' = H' ∧ (i + 1 = 0 ∧ d = -1 ∨ ∃ j, i + 1 = j + 1 ∧ ns[j]? = some d) := fun c' => ⟨c', rfl, rfl, .inr ⟨i, rfl, hi⟩⟩
    rcases hs with ⟨_, rfl⟩ | ⟨j, rfl, hj⟩
    · exact ifF (decide_eq_false (by omega)) ⟨_, rfl, ifF rfl ⟨_, rfl, nx _⟩⟩
    · have s1 := h1 s (List.mem_of_getElem? hj)
      refine ifT (decide_eq_true (by omega)) ⟨_, rfl, _, _, rfl, rfl, _, rfl, ?_⟩
      have le : d ≤ s := by
        obtain ⟨a1, a2⟩ := List.getElem?_eq_some_iff.mp hj
        obtain ⟨b1, b2⟩ := List.getElem?_eq_some_iff.mp hi
        have := List.pairwise_iff_getElem.mp h2 j (j + 1) a1 b1 (by omega)
        rw [a2, b2] at this
        exact this
      exact ifF (decide_eq_false (by omega)) ⟨_, rfl, nx _⟩
  · obtain ⟨c, rfl, rfl, _⟩ := h
    exact hQ
def spCheckP : Sp := fun vs H Q _ => ∃ (x : V) (ns : Pt), vs = [x] ∧ RT H x ns ∧ OkPt ns ∧ ns.length ≤ 1000 ∧ ns.sum ≤ 8 ∧ Q .non H
theorem sc_check_part : FnScope ["part"] ["part"] (defScope (top 44)) := ⟨rfl, rfl, rfl, by decide +kernel, rfl, by decide +kernel, by decide +kernel⟩
theorem ok_check_part (T : Tx K mg) : Cal P w K mg base 2 "check_part" ["part"] [] (spCheckP) := by
  obtain ⟨tmd, hmd⟩ := T.md
  have c_is_partition := ok_is_partition (P := P) (w := w) (base := base) T
  have c_size := ok_size (P := P) (w := w) (base := base) T
  obtain ⟨fd, F⟩ := T.d 16 _ rfl
  have sc := sc_check_part
  refine ⟨_, fd, [], FunD.ok (k := 1) F sc (fun vs H Q E h => by obtain ⟨_, _, rfl, _⟩ := h; rfl) (fun cdv A outer s H vs Q E hr h => ?_), T.g "check_part" (by decide +kernel), F.kp, FunD.bindsN F (fun _ _ _ _ _ _ us hl => match us, hl with | [_], _ => rfl), .nil⟩
  refine ⟨_, PSs.nox ((pss_cons (ps_if (pt_not (pt_val (pe_cg c_is_partition (hr.mono (by decide)) (pa_cons (pv 0) pa_nil))))
  (pss_one ps_never) pss_nil)
  (pss_one (ps_if (pt_cmpR op_gt (pe_cg c_size (hr.mono (by decide)) (pa_cons (pv 0) pa_nil)) (pe_glob (v := .int 8) rfl hmd ⟨_, rfl⟩) (nomark _))
  (pss_one ps_never) pss_nil)))), ?_⟩
  obtain ⟨x, ns, rfl, hx, h1, h2, h3, hQ⟩ := h
  refine ⟨_, rfl, x, ns, rfl, hx, h1, h2, _, rfl, ifF rfl ?_⟩
  exact ⟨_, rfl, x, ns, rfl, hx, _, _, rfl, rfl, _, rfl, ifF (decide_eq_false (by omega)) hQ⟩
end
end FB
namespace FB
open PySem PySem.Spec PyProof.Rows L2 SF FR
section
variable {P : Program} {w : World} {K : PySem.W.Frag} {mg : Str → Option Value} {base : Heap}
def spMon (n : Nat) : Sp := fun vs H Q _ => ∃ m d : Nat, vs = [.int (m : Int), .int (d : Int)] ∧ m < n ∧ m ≤ 8 ∧ d ≤ 8 ∧ (∀ m' ≤ m, ∀ d' ≤ d, (exps m' d').length ≤ 1000) ∧ ∀ v H', Ex H H' → RTs RT H' v (exps m d) → Q v H'
theorem sc_monomials : FnScope ["n", "d", "found", "k", "rest"] ["n", "d"] (defScope (top 40)) := ⟨rfl, rfl, rfl, by decide +kernel, rfl, by decide +kernel, by decide +kernel⟩
theorem ok_monomials (T : Tx K mg) (n : Nat) : Cal P w K mg base (n + 2) "monomials" ["n", "d"] [] (spMon n) := by
  have c_check_letters := ok_check_letters (P := P) (w := w) (base := base) T
  obtain ⟨fd, F⟩ := T.d 15 _ rfl
  have sc := sc_monomials
  have bd : Binds K fd ["n", "d"] [] := FunD.bindsN F (fun _ _ _ _ _ _ us hl => match us, hl with | [_, _], _ => rfl)
  refine ⟨_, fd, [], ?_, T.g "monomials" (by decide +kernel), F.kp, bd, .nil⟩
  induction n with
  | zero => exact FnOk.vac fun vs H Q E h => by obtain ⟨_, _, _, h, _⟩ := h; exact absurd h (Nat.not_lt_zero _)
  | succ n ih =>
    have c_rec : Cal P w K mg base (n + 2) "monomials" ["n", "d"] [] (spMon n) := ⟨_, fd, [], ih, T.g "monomials" (by decide +kernel), F.kp, bd, .nil⟩
    rw [show n + 1 + 2 = (n + 2) + 1 by omega]
    refine FunD.ok (k := n + 2) F sc (fun vs H Q E h => by obtain ⟨_, _, rfl, _⟩ := h; rfl) (fun cdv A outer s H vs Q E hr h => ⟨_, PSs.nox ((pss_cons (ps_expr (pe_cg c_check_letters (hr.mono (by omega)) (pa_cons (pv 0) pa_nil)))
  (pss_cons (ps_if (pt_cmpR op_eq (pv 0) pe_int (nomark _))
  (pss_one (ps_ret (pe_ifExp (pt_cmpR op_eq (pv 1) pe_int (nomark _)) (pe_tup (pa_cons (pe_tup pa_nil) pa_nil)) (pe_tup pa_nil)))) pss_nil)
  (pss_cons (ps_set (i := 2) sc.nd rfl (Or.inl rfl) (pe_lst pa_nil))
  (pss_cons (ps_for PassesOwn.never rfl (pi_range3 rfl (T.f "range" (by decide +kernel)) (pa_cons (pv 1) (pa_cons (pe_un un_neg pe_int) (pa_cons (pe_un un_neg pe_int) pa_nil)))) (pg_name (i := 3) sc.nd rfl (Or.inr rfl))
  (pss_one (ps_expr (pe_bm PySem.F.plainAttrs_list PySem.F.slot_list_extend PySem.F.type_list_extend mt_extend (pv 2) (pa_cons (pe_lc (own := [("rest", 4)]) rfl sc.nd (pi_tup (pe_cg c_rec hr (pa_cons (pe_op op_sub (pv 0) pe_int) (pa_cons (pe_op op_sub (pv 1) (pv 3)) pa_nil)))) (blkOk_by (N := ["n", "d", "found", "k", "rest"]) (sc := defScope (top 40)) (by decide +kernel)) (fun _ _ _ _ _ => (pg_name (i := 4) sc.nd rfl (Or.inl rfl))) (fun _ _ _ _ _ => pts_nil) (fun _ _ _ _ _ => (pe_op (op_catK (K := K)) (pe_tup (pa_cons (pv 3) pa_nil)) (pv 4)))) pa_nil)))))
  (pss_one (ps_ret (pe_callTy call_tuple_of (by rfl) (T.f "tuple" (by decide +kernel)) (by decide +kernel) (pa_cons (pv 2) pa_nil))))))))), ?_⟩)
    obtain ⟨m, d, rfl, hn, hm8, hd, hln, hQ⟩ := h
    refine ⟨_, rfl, (m : Int), rfl, by omega, by omega, _, rfl, rfl, _, rfl, ?_⟩
    cases m with
    | zero =>
      refine iteT ⟨_, rfl, rfl, _, rfl, ?_⟩
      cases d with
      | zero =>
        refine iteT ⟨t0, fun p hp => ⟨t1, fun l hl => ?_⟩⟩
        exact hQ _ _ ((Ex.nw hp).tr (.nw hl)) ⟨l, _, rfl, upd_same, .cons ⟨p, rfl, by rw [upd_ne (fun z => by rw [z] at hl; rw [upd_same] at hl; cases hl), upd_same]; rfl⟩ .nil⟩
      | succ d => exact ifF (eqI_f (by omega)) ⟨t0, fun l hl => hQ _ _ (.nw hl) ⟨l, _, rfl, upd_same, .nil⟩⟩
    | succ m =>
      refine ifF (eqI_f (by omega)) ⟨t0, fun D hD => ⟨_, rfl, _, rfl, _, rfl, d, -1, -1, _, rfl, RgC.neg (by omega) (by omega) (by omega) (by omega), ?_⟩⟩
      refine for_rangeC (fun i σ H' => ∃ u1 u2, σ = [some (.int ((m + 1 : Nat) : Int)), some (.int (d : Int)), some (.ref D), u1, u2] ∧ Bl RT H D ((List.range i).flatMap (fun i => (exps m i).map fun r => ((d - i : Nat) : Int) :: r)) H' ∧ ((List.range i).flatMap (fun i => (exps m i).map fun r => ((d - i : Nat) : Int) :: r)).length ≤ i * 1000) ⟨none, none, rfl, .new hD, by simp⟩ (fun i σ H1 hi hI => ?_) fun σ H1 hI => ?_
      · obtain ⟨u1, u2, rfl, hB, hL⟩ := hI
        have le := hln m (by omega) i (by omega)
        refine ⟨_, rfl, Or.inl ⟨rfl, hB.sql⟩, _, rfl, _, _, rfl, rfl, _, rfl, _, rfl, _, _, rfl, rfl, m, i, lst2 (vint (by omega)) (vint (by omega)), by omega, by omega, by omega, fun m' h' d' h'' => hln m' (by omega) d' (by omega), fun v H2 e2 hv => ?_⟩
        obtain ⟨t, us, rfl, ht, hA⟩ := hv
        have B2 := hB.grow mo_RT e2
        refine ⟨t, rfl, ⟨_, SqT.of ht⟩, fun L hL2 => ?_⟩
        refine lc_seqT (SqT.of ht) hA (fun r => some (((d - i : Nat) : Int) :: r)) mo_RT mo_RT (by omega) (fun j r x H3 C N hj e3 hx c1 c2 => ?_) hL2 (fun H3 acc e3 h3 hAc => ?_)
        · have rl : r.length ≤ 1000 := by rw [exps_len _ _ _ (List.mem_of_getElem? hj)]; omega
          refine ⟨rfl, yes_of (iteT ⟨_, rfl, t1, fun p hp => ⟨_, rfl, cat_of (xs := [(d : Int) + (i : Nat) * -1]) (RT.mk upd_same) (mo_RT (.nw hp) hx) (by show 1 + r.length ≤ _; omega) fun v H4 e4 r4 => ?_⟩⟩)⟩
          have e : [(d : Int) + (i : Nat) * -1] ++ r = ((d - i : Nat) : Int) :: r := by
            rw [show (d : Int) + (i : Nat) * -1 = ((d - i : Nat) : Int) by omega]
            rfl
          rw [e] at r4
          exact c1 _ _ _ rfl ((Ex.nw hp).tr e4) r4
        · rw [fm_map (fun r => ((d - i : Nat) : Int) :: r)] at hAc
          have B3 := B2.grow mo_RT e3
          refine nil_of (ext_of mo_RT B3 h3 hAc (by rw [List.length_map]; omega) fun H4 b4 e4 => ?_)
          rw [← range_flat (fun i => (exps m i).map fun r => ((d - i : Nat) : Int) :: r)] at b4
          refine ⟨_, _, rfl, b4, ?_⟩
          rw [range_flat, List.length_append, List.length_map, Nat.add_mul, Nat.one_mul]
          omega
      · obtain ⟨u1, u2, rfl, hB, hL⟩ := hI
        have e : ((d : Int) - -1).toNat = d + 1 := by omega
        rw [e] at hB
        obtain ⟨us, h1, h2⟩ := hB.acc
        exact ⟨_, rfl, D, us, rfl, .inl ⟨SqL.of h1, fun l hl => hQ _ _ (hB.ex.tr (.nw hl)) ⟨l, us, rfl, upd_same, h2.mo mo_RT (.nw hl)⟩⟩⟩
def bstr : SF.B → Str
  | .m => "m"
  | .e => "e"
  | .h => "h"
  | .p => "p"
  | .s => "s"
theorem str_h (b : SF.B) : decide (V.str (bstr b) = V.str "h") = decide (b = .h) := by cases b <;> decide +kernel
theorem str_e (b : SF.B) : decide (V.str (bstr b) = V.str "e") = decide (b = .e) := by cases b <;> decide +kernel
theorem str_p (b : SF.B) : decide (V.str (bstr b) = V.str "p") = decide (b = .p) := by cases b <;> decide +kernel
theorem str_m (b : SF.B) : decide (V.str (bstr b) = V.str "m") = decide (b = .m) := by cases b <;> decide +kernel
theorem str_s (b : SF.B) : decide (V.str (bstr b) = V.str "s") = decide (b = .s) := by cases b <;> decide +kernel
theorem cond_of {σ : L2.St} {H : Hp} {Q : Bool → Hp → Prop} {i j l : Nat} {b : SF.B} {top k : Int} (h0 : σ[i]? = some (some (.str (bstr b)))) (h1 : σ[j]? = some (some (.int top))) (h2 : σ[l]? = some (some (.int k))) (q : Q (SF.cond b top k) H) :
    tOr (tTest (tOp rEq (tVar i) (tC (.str "h")))) (tOr (tAnd (tTest (tOp rEq (tVar i) (tC (.str "e")))) (tTest (tOp (rI0 fun i j => .bl (decide (i < j))) (tVar j) (tC (.int 2))))) (tAnd (tTest (tOp rEq (tVar i) (tC (.str "p")))) (tTest (tOp rEq (tVar j) (tVar l))))) σ H Q := by
  unfold SF.cond at q
  refine ⟨_, h0, rfl, _, rfl, ?_⟩
  show if decide (V.str (bstr b) = V.str "h") = true then _ else _
  rw [str_h]
  by_cases c1 : b = .h
  · rw [decide_eq_true c1] at q ⊢
    exact iteT q
  · rw [decide_eq_false c1] at q ⊢
    refine iteF ⟨_, h0, rfl, _, rfl, ?_⟩
    show if decide (V.str (bstr b) = V.str "e") = true then _ else _
    rw [str_e]
    by_cases c2 : b = .e
    · rw [decide_eq_true c2] at q ⊢
      refine iteT ⟨_, h1, _, _, rfl, rfl, _, rfl, ?_⟩
      by_cases c3 : top < 2
      · rw [decide_eq_true c3] at q
        exact ifT (decide_eq_true c3) q
      · rw [decide_eq_false c3] at q
        refine ifF (decide_eq_false c3) ⟨_, h0, rfl, _, rfl, ?_⟩
        have c4 : b ≠ .p := by rw [c2]; decide
        show if decide (V.str (bstr b) = V.str "p") = true then _ else _
        rw [str_p]
        rw [decide_eq_false c4] at q ⊢
        exact iteF q
    · rw [decide_eq_false c2] at q ⊢
      refine iteF (iteF ⟨_, h0, rfl, _, rfl, ?_⟩)
      show if decide (V.str (bstr b) = V.str "p") = true then _ else _
      rw [str_p]
      by_cases c4 : b = .p
      · rw [decide_eq_true c4] at q ⊢
        refine iteT ⟨_, h1, _, h2, rfl, _, rfl, ?_⟩
        rw [eqI]
        exact q
      · rw [decide_eq_false c4] at q ⊢
        exact iteF q
theorem maxL_spec : ∀ (v : Pt) (m : Int), m ∈ v ++ [0] → (∀ y ∈ v ++ [0], y ≤ m) → m = maxL v := by
  have mem : ∀ v : Pt, maxL v ∈ v ++ [0] := by
    intro v
    induction v with
    | nil => simp [maxL]
    | cons x v ih =>
      unfold maxL
      split
      · simp
      · exact List.mem_cons_of_mem _ ih
  have ub : ∀ v : Pt, ∀ y ∈ v ++ [0], y ≤ maxL v := by
    intro v
    induction v with
    | nil => intro y hy; simp at hy; simp [maxL, hy]
    | cons x v ih =>
      intro y hy
      unfold maxL
      rcases List.mem_cons.mp hy with rfl | hy
      · split <;> omega
      · have := ih y hy
        split <;> omega
  intro v m h1 h2
  exact Int.le_antisymm (ub v m h1) (h2 _ (mem v))
theorem minL_spec : ∀ (v : Pt) (m : Int), m ∈ v ++ [0] → (∀ y ∈ v ++ [0], m ≤ y) → m = minL v := by
  have mem : ∀ v : Pt, minL v ∈ v ++ [0] := by
    intro v
    induction v with
    | nil => simp [minL]
    | cons x v ih =>
      unfold minL
      split
      · simp
      · exact List.mem_cons_of_mem _ ih
  have lb : ∀ v : Pt, ∀ y ∈ v ++ [0], minL v ≤ y := by
    intro v
    induction v with
    | nil => intro y hy; simp at hy; simp [minL, hy]
    | cons x v ih =>
      intro y hy
      unfold minL
      rcases List.mem_cons.mp hy with rfl | hy
      · split <;> omega
      · have := ih y hy
        split <;> omega
  intro v m h1 h2
  exact Int.le_antisymm (h2 _ (mem v)) (lb v m h1)
theorem max_of {H : Hp} {Q : VK} {w : V} {v : Pt} (r : RT H w (v ++ [0])) (q : Q (.int (maxL v)) H) : rMaxU K [w] H Q := by
  obtain ⟨a, rfl, ha⟩ := r
  refine ⟨a, v ++ [0], rfl, SqT.of ha, by rw [List.length_append]; show 0 < v.length + 1; omega, fun m h1 h2 => ?_⟩
  rw [maxL_spec v m h1 h2]
  exact q
theorem min_of {H : Hp} {Q : VK} {w : V} {v : Pt} (r : RT H w (v ++ [0])) (q : Q (.int (minL v)) H) : rMinU K [w] H Q := by
  obtain ⟨a, rfl, ha⟩ := r
  refine ⟨a, v ++ [0], rfl, SqT.of ha, by rw [List.length_append]; show 0 < v.length + 1; omega, fun m h1 h2 => ?_⟩
  rw [minL_spec v m h1 h2]
  exact q
def spChoices : Sp := fun vs H Q _ => ∃ (b : SF.B) (k : Nat) (y : V) (rest : Pt), vs = [.str (bstr b), .int (k : Int), y] ∧ RT H y rest ∧ rest.length ≤ 4 ∧ k ≤ 8 ∧ ∀ v H', Ex H H' → NewL RT H H' v (choices b k rest) → Q v H'
theorem fold_app {α β : Type} (F : α → Option β) : ∀ (xs : List α) (s : List β), xs.foldl (fun s v => s ++ (F v).toList) s = s ++ xs.filterMap F
  | [], s => by simp
  | x :: xs, s => by
    rw [List.foldl_cons, fold_app F xs]
    cases h : F x with
    | none => rw [List.filterMap_cons_none h]; simp
    | some y => rw [List.filterMap_cons_some h]; simp
theorem len_exps : ∀ n, n ≤ 4 → ∀ d, d ≤ 8 → (exps n d).length ≤ 1000 := by decide +kernel
theorem sc_choices : FnScope ["base", "k", "rest", "found", "v", "left", "top", "a", "b"] ["base", "k", "rest"] (defScope (top 46)) := ⟨rfl, rfl, rfl, by decide +kernel, rfl, by decide +kernel, by decide +kernel⟩
theorem ok_choices (T : Tx K mg) : Cal P w K mg base 12 "choices" ["base", "k", "rest"] [] (spChoices) := by
  have c_monomials := ok_monomials (P := P) (w := w) (base := base) T 9
  have c_descending := ok_descending (P := P) (w := w) (base := base) T
  obtain ⟨fd, F⟩ := T.d 18 _ rfl
  have sc := sc_choices
  refine ⟨_, fd, [], FunD.ok (k := 11) F sc (fun vs H Q E h => by obtain ⟨_, _, _, _, rfl, _⟩ := h; rfl) (fun cdv A outer s H vs Q E hr h => ?_), T.g "choices" (by decide +kernel), F.kp, FunD.bindsN F (fun _ _ _ _ _ _ us hl => match us, hl with | [_, _, _], _ => rfl), .nil⟩
  refine ⟨_, PSs.nox ((pss_cons (ps_set (i := 3) sc.nd rfl (Or.inl rfl) (pe_lst pa_nil))
  (pss_cons (ps_for PassesOwn.never rfl (pi_tup (pe_cg c_monomials (hr.mono (by decide)) (pa_cons (pe_callB call_len_seq (by rfl) (T.f "len" (by decide +kernel)) (by decide +kernel) (pa_cons (pv 2) pa_nil)) (pa_cons (pv 1) pa_nil)))) (pg_name (i := 4) sc.nd rfl (Or.inl rfl))
  (pss_cons (ps_set (i := 5) sc.nd rfl (Or.inl rfl) (pe_callTy call_tuple_of (by rfl) (T.f "tuple" (by decide +kernel)) (by decide +kernel) (pa_cons (pe_lc (own := [("a", 7), ("b", 8)]) rfl sc.nd (RZ.pi_zipA rfl (T.f "zip" (by decide +kernel)) (pa_cons (pv 2) (pa_cons (pv 4) pa_nil))) (blkOk_by (N := ["base", "k", "rest", "found", "v", "left", "top", "a", "b"]) (sc := defScope (top 46)) (by decide +kernel)) (fun _ _ _ _ _ => (pg_tupK (K := K) (n := 2) rfl (pgs_cons (pg_name (i := 7) sc.nd rfl (Or.inl rfl)) (pgs_cons (pg_name (i := 8) sc.nd rfl (Or.inl rfl)) pgs_nil)))) (fun _ _ _ _ _ => pts_nil) (fun _ _ _ _ _ => (pe_op op_sub (pv 7) (pv 8)))) pa_nil)))
  (pss_cons (ps_set (i := 6) sc.nd rfl (Or.inl rfl) (pe_callB (cr_maxU rfl) (by rfl) (T.f "max" (by decide +kernel)) (by decide +kernel) (pa_cons (pe_op op_catA (pv 4) (pe_tup (pa_cons pe_int pa_nil))) pa_nil)))
  (pss_one (ps_if (PW.pt (pw_and (pt_cmpR op_ge (pe_callB (cr_minU rfl) (by rfl) (T.f "min" (by decide +kernel)) (by decide +kernel) (pa_cons (pe_op op_catA (pv 5) (pe_tup (pa_cons pe_int pa_nil))) pa_nil)) pe_int (nomark _)) (pw_and1 (PW.pt (pw_or (pt_cmpR op_eq (pv 0) pe_str (nomark _)) (pw_or (PW.pt (pw_and (pt_cmpR op_eq (pv 0) pe_str (nomark _)) (pw_and1 (pt_cmpR op_lt (pv 6) pe_int (nomark _))))) (pw_or1 (PW.pt (pw_and (pt_cmpR op_eq (pv 0) pe_str (nomark _)) (pw_and1 (pt_cmpR op_eq (pv 6) (pv 1) (nomark _))))))))))))
  (pss_one (ps_expr (pe_bm PySem.F.plainAttrs_list PySem.F.slot_list_append PySem.F.type_list_append mt_append (pv 3) (pa_cons (pe_cg c_descending (hr.mono (by decide)) (pa_cons (pv 5) pa_nil)) pa_nil)))) pss_nil)))))
  (pss_one (ps_ret (pv 3)))))), ?_⟩
  obtain ⟨b, k, y, rest, rfl, ⟨tr, rfl, htr⟩, hl, hk, hQ⟩ := h
  refine ⟨t0, fun D hD => ?_⟩
  have e0 := Ex.nw (o := HO.lst []) hD
  refine ⟨_, rfl, tr, _, rfl, .inr (SqT.of (e0 _ _ htr)), _, rfl, rest.length, k, ?_, by omega, by omega, by omega, fun m' h' d' h'' => len_exps m' (by omega) d' (by omega), fun v H2 e2 hv => ?_⟩
  · rw [List.length_map]
    rfl
  obtain ⟨t, us, rfl, ht, hA⟩ := hv
  have le := len_exps rest.length (by omega) k (by omega)
  refine ⟨t, rfl, ⟨_, SqT.of ht⟩, ?_⟩
  have B2 : Bl RT H D [] H2 := (Bl.new hD).grow mo_RT e2
  refine for_seqT hA mo_RT (fun s v => s ++ ((fun v => if decide (0 ≤ minL (List.zipWith (· - ·) rest v)) && SF.cond b (maxL v) k then some (desc (List.zipWith (· - ·) rest v)) else none) v).toList) [] (fun i s σ H' => ∃ u1 u2 u3 u4 u5, σ = [some (.str (bstr b)), some (.int (k : Int)), some (.ref tr), some (.ref D), u1, u2, u3, u4, u5] ∧ Bl RT H D s H' ∧ ExS [D] H2 H' ∧ s.length ≤ i) ⟨none, none, none, none, none, rfl, B2, .rf, Nat.le_refl _⟩ (fun i s σ H' h => ?_) (fun i s v x σ H' hi hx h => ?_) fun σ H' h => ?_
  · obtain ⟨u1, u2, u3, u4, u5, rfl, hB, hE, _⟩ := h
    refine ⟨SqT.of (hE t _ (fun z => ?_) ht), B2.imm hE⟩
    obtain ⟨us', h1, _⟩ := B2.acc
    rw [List.mem_singleton.mp z, h1] at ht
    cases ht
  · obtain ⟨u1, u2, u3, u4, u5, rfl, hB, hE, hs⟩ := h
    have hi2 := (List.getElem?_eq_some_iff.mp hi).1
    have vl : v.length = rest.length := exps_len _ _ _ (List.mem_of_getElem? hi)
    obtain ⟨tv, rfl, htv⟩ := id hx
    refine ⟨_, rfl, _, rfl, tr, tv, _, _, rfl, .inr ⟨SqT.of (hB.ex _ _ htr), SqT.of htv, fun L hL => ?_⟩⟩
    refine lc_zip (n := rest.length) (SqT.of (hB.ex _ _ htr)) (SqT.of htv) (by rw [vl]; omega) (fun a b => a - b) mo_RI (by omega) (fun c d T' H3 C N e3 hT c1 => ?_) hL (fun H3 acc e3 h3 hAc => ?_)
    · exact ⟨T', _, rfl, SqT.of hT, rfl, _, _, rfl, _, _, rfl, rfl, rfl, yes_of (iteT ⟨_, rfl, _, rfl, _, _, rfl, rfl, c1 _ _ .rf rfl⟩)⟩
    have ea := all_RI hAc
    subst ea
    refine ⟨L, _, rfl, .inl ⟨SqL.of h3, fun l hl4 => ?_⟩⟩
    have e4 : Ex H' (upd H3 l (.tup ((List.zipWith (fun a b => a - b) rest v).map V.int))) := e3.tr (.nw hl4)
    refine ⟨_, rfl, t1, fun p hp => ?_⟩
    have e5 := e4.tr (Ex.nw (o := HO.tup [V.int 0]) hp)
    refine cat_of (mo_RT (.of e5) hx) (RT.mk (xs := [0]) upd_same) (by show v.length + 1 ≤ _; omega) fun w H6 e6 r6 => nil_of (max_of r6 ?_)
    have e6' := e5.tr e6
    have rl : RT H6 (.ref l) (List.zipWith (· - ·) rest v) := ⟨l, rfl, e6 _ _ (upd_new hp upd_same)⟩
    have ll : (List.zipWith (· - ·) rest v).length ≤ 4 := by rw [List.length_zipWith]; omega
    refine ⟨_, rfl, t1, fun p2 hp2 => ?_⟩
    have e7 := e6'.tr (Ex.nw (o := HO.tup [V.int 0]) hp2)
    refine cat_of (mo_RT (.nw hp2) rl) (RT.mk (xs := [0]) upd_same) (by show _ + 1 ≤ _; omega) fun w2 H8 e8 r8 => nil_of (min_of r8 ?_)
    have e8' := e7.tr e8
    have hB8 := hB.grow mo_RT e8'
    have hE8 : ExS [D] H2 H8 := hE.tr e8'
    refine ⟨_, _, rfl, rfl, _, rfl, ?_⟩
    by_cases c1 : 0 ≤ minL (List.zipWith (· - ·) rest v)
    · refine ifT (decide_eq_true c1) (cond_of (b := b) (top := maxL v) (k := (k : Int)) rfl rfl rfl ?_)
      by_cases c2 : SF.cond b (maxL v) k = true
      · refine ifT c2 ⟨_, rfl, Or.inl ⟨rfl, hB8.sql⟩, _, rfl, .ref l, _, rfl, mo_RT ((Imm.nw hp2).tr (.of e8)) rl, by omega, fun u H9 e9 r9 => nil_of (app_of mo_RT (hB8.grow mo_RT e9) r9 (by omega) fun H10 b10 e10 => ?_)⟩
        have ef : (fun v => if decide (0 ≤ minL (List.zipWith (· - ·) rest v)) && SF.cond b (maxL v) k then some (desc (List.zipWith (· - ·) rest v)) else none) v = some (desc (List.zipWith (· - ·) rest v)) := by
          show (if (decide (0 ≤ minL (List.zipWith (· - ·) rest v)) && SF.cond b (maxL v) k) = true then _ else _) = _
          rw [if_pos (by rw [decide_eq_true c1, c2]; rfl)]
        rw [ef]
        exact ⟨_, _, _, _, _, rfl, b10, (hE8.tr e9).trS e10, by rw [List.length_append]; show _ + 1 ≤ _; omega⟩
      · refine ifF (Bool.eq_false_iff.mpr c2) ?_
        have ef : (fun v => if decide (0 ≤ minL (List.zipWith (· - ·) rest v)) && SF.cond b (maxL v) k then some (desc (List.zipWith (· - ·) rest v)) else none) v = none := by
          show (if (decide (0 ≤ minL (List.zipWith (· - ·) rest v)) && SF.cond b (maxL v) k) = true then _ else _) = _
          rw [if_neg (by rw [Bool.eq_false_iff.mpr c2]; simp)]
        rw [ef]
        exact ⟨_, _, _, _, _, rfl, by simpa using hB8, hE8, by simp; omega⟩
    · refine ifF (decide_eq_false c1) ?_
      have ef : (fun v => if decide (0 ≤ minL (List.zipWith (· - ·) rest v)) && SF.cond b (maxL v) k then some (desc (List.zipWith (· - ·) rest v)) else none) v = none := by
        show (if (decide (0 ≤ minL (List.zipWith (· - ·) rest v)) && SF.cond b (maxL v) k) = true then _ else _) = _
        rw [if_neg (by rw [decide_eq_false c1]; simp)]
      rw [ef]
      exact iteF ⟨_, _, _, _, _, rfl, by simpa using hB8, hE8, by simp; omega⟩
  · obtain ⟨u1, u2, u3, u4, u5, rfl, hB, hE, _⟩ := h
    rw [fold_app, List.nil_append] at hB
    exact ⟨_, rfl, hQ _ _ hB.ex hB.newL⟩
end
end FB
namespace FB
open PySem PySem.Spec PyProof.Rows L2 SF FR
section
variable {P : Program} {w : World} {K : PySem.W.Frag} {mg : Str → Option Value} {base : Heap}
/-- a table that dict() may copy -/
def okT (T : Tb) : Bool := decide ((T.map (·.1)).Nodup) && ((T.map (·.1)).all (fun k => decide (k ∈ uni)) && decide (T.length ≤ 50))
theorem okT_ok {T : Tb} (h : okT T = true) : OkK T ∧ T.length ≤ 50 := by
  unfold okT at h
  obtain ⟨h1, h⟩ := He.ba h
  obtain ⟨h2, h3⟩ := He.ba h
  exact ⟨⟨of_decide_eq_true h1, fun k hk => of_decide_eq_true (List.all_eq_true.mp h2 k hk)⟩, of_decide_eq_true h3⟩
theorem uni_small : ∀ k ∈ uni, k.length ≤ 4 ∧ ∀ y ∈ k, 0 ≤ y ∧ y ≤ 4 := by decide +kernel
def wayOk (b : SF.B) (p μ : Pt) : Bool := ((List.range (p.length + 1)).all fun i => okT ((p.take i).foldl (wayStep b) [(μ, 1)])) && (p.all fun k => decide (0 ≤ k) && decide (k ≤ 4))
def cntAt (p μ : Pt) (i : Nat) : Bool := okT ((μ.take i).foldl (stripStep p) [([], 1)]) && ((decide (((μ.take i).foldl (stripStep p) [([], 1)]).length ≤ 1) || (((μ.take i).foldl (stripStep p) [([], 1)]).map (·.1)).all fun k => decide (k ≠ [])) && ((μ.take i).foldl (stripStep p) [([], 1)]).all fun q => decide ((withStrip q.1 (μ.getD i 0)).length ≤ 100))
def cntOk (p μ : Pt) : Bool := ((List.range (μ.length + 1)).all fun i => cntAt p μ i) && (μ.all fun k => decide (0 ≤ k) && decide (k ≤ 4))
def coefOk (b : SF.B) (p μ : Pt) : Bool := decide (p ∈ uni) && (decide (μ ∈ uni) && (if b = .m then true else if b = .s then cntOk p μ else wayOk b p μ))
/-- d[k] = d.get(k, 0) + n, over whole numbers -/
theorem bump_len (T : Tb) (e : Pt) (c : Int) : (bump T e c).length ≤ T.length + 1 := len_put _ _ _
theorem prB_ints {H : Hp} : ∀ (ns ms : Pt), PrB DIB H (ns.map V.int) (ms.map V.int) (decide (ns = ms))
  | [], [] => .nil
  | [], m :: ms => .left _ _
  | n :: ns, [] => .right _ _
  | n :: ns, m :: ms => by
    by_cases h : n = m
    · subst h
      have e : decide (n :: ns = n :: ms) = decide (ns = ms) := by simp
      rw [e]
      exact .yes ⟨n, n, rfl, rfl, (decide_eq_true rfl).symm⟩ (prB_ints ns ms)
    · have e : decide (n :: ns = m :: ms) = false := by simp [h]
      rw [e]
      exact .no ⟨n, m, rfl, rfl, (decide_eq_false h).symm⟩
theorem eqP_of {H : Hp} {Q : VK} {x y : V} {ns ms : Pt} (hx : RT H x ns) (hy : RT H y ms) (q : ∀ H', Ex H H' → Q (.bl (decide (ns = ms))) H') : rEqB (DTB K DIB) x y H Q := by
  obtain ⟨a, rfl, ha⟩ := hx
  obtain ⟨b, rfl, hb⟩ := hy
  exact ⟨_, ⟨a, b, _, _, rfl, rfl, SqT.of ha, SqT.of hb, prB_ints ns ms⟩, q⟩
theorem op_eqP {X : Cx} (hr : Room 1 X.A) : OpR X (compareOp .Eq) (rEqB (DTB X.K DIB)) := op_eqB (n := 1) (rcB_tup monB_int eqB_int) hr
theorem tLe_eq : FR.tLe = SF.tLe := rfl
theorem sortT_perm (b : Bool) : ∀ l : List Pt, (sortT b l).Perm l := by
  have ins : ∀ (x : Pt) (l : List Pt), (insT b x l).Perm (x :: l) := by
    intro x l
    induction l with
    | nil => exact .refl _
    | cons y r ih =>
      unfold insT
      split
      · exact .refl _
      · exact (ih.cons y).trans (.swap x y r)
  intro l
  induction l with
  | nil => exact .refl _
  | cons x r ih => exact (ins x _).trans (ih.cons x)
theorem tLe_total (b : Bool) (x y : Pt) : SF.tLe b x y = true ∨ SF.tLe b y x = true := by
  unfold SF.tLe
  split
  · rcases List.le_total x y with h | h
    · exact .inr (decide_eq_true h)
    · exact .inl (decide_eq_true h)
  · rcases List.le_total x y with h | h
    · exact .inl (decide_eq_true h)
    · exact .inr (decide_eq_true h)
theorem tLe_trans (b : Bool) (x y z : Pt) (h1 : SF.tLe b x y = true) (h2 : SF.tLe b y z = true) : SF.tLe b x z = true := by
  unfold SF.tLe at *
  split at h1
  · rw [if_pos (by assumption)] at h2 ⊢
    exact decide_eq_true (List.le_trans (of_decide_eq_true h2) (of_decide_eq_true h1))
  · rw [if_neg (by assumption)] at h2 ⊢
    exact decide_eq_true (List.le_trans (of_decide_eq_true h1) (of_decide_eq_true h2))
theorem tLe_anti (b : Bool) (x y : Pt) (h1 : SF.tLe b x y = true) (h2 : SF.tLe b y x = true) : x = y := by
  unfold SF.tLe at *
  split at h1
  · rw [if_pos (by assumption)] at h2
    exact List.le_antisymm (of_decide_eq_true h2) (of_decide_eq_true h1)
  · rw [if_neg (by assumption)] at h2
    exact List.le_antisymm (of_decide_eq_true h1) (of_decide_eq_true h2)
theorem sortT_pw (b : Bool) : ∀ l : List Pt, (sortT b l).Pairwise (fun x y => SF.tLe b x y = true) := by
  have mem : ∀ (x : Pt) (l : List Pt) (z : Pt), z ∈ insT b x l → z = x ∨ z ∈ l := by
    intro x l
    induction l with
    | nil => intro z hz; exact .inl (List.mem_singleton.mp hz)
    | cons y r ih =>
      intro z hz
      unfold insT at hz
      split at hz
      · exact List.mem_cons.mp hz
      · rcases List.mem_cons.mp hz with h | h
        · exact .inr (by rw [h]; exact List.mem_cons_self ..)
        · exact (ih z h).imp id (List.mem_cons_of_mem _)
  have ins : ∀ (x : Pt) (l : List Pt), l.Pairwise (fun x y => SF.tLe b x y = true) → (insT b x l).Pairwise (fun x y => SF.tLe b x y = true) := by
    intro x l
    induction l with
    | nil => intro _; exact List.pairwise_singleton _ _
    | cons y r ih =>
      intro h
      obtain ⟨h1, h2⟩ := List.pairwise_cons.mp h
      unfold insT
      split
      · rename_i hle
        refine List.pairwise_cons.mpr ⟨fun z hz => ?_, h⟩
        rcases List.mem_cons.mp hz with rfl | hz
        · exact hle
        · exact tLe_trans b _ _ _ hle (h1 z hz)
      · rename_i hle
        refine List.pairwise_cons.mpr ⟨fun z hz => ?_, ih h2⟩
        rcases mem x r z hz with rfl | hz
        · exact (tLe_total b _ _).resolve_left hle
        · exact h1 z hz
  intro l
  induction l with
  | nil => exact .nil
  | cons x r ih => exact ins x _ ih
theorem sortT_uniq (b : Bool) (l : List Pt) : l.mergeSort (FR.tLe b) = sortT b l := by
  refine List.Perm.eq_of_pairwise (le := fun x y => SF.tLe b x y = true) (fun x y _ _ h1 h2 => tLe_anti b x y h1 h2) ?_ (sortT_pw b l) ((List.mergeSort_perm l _).trans (sortT_perm b l).symm)
  exact List.pairwise_mergeSort (fun x y z h1 h2 => tLe_trans b x y z h1 h2) (fun x y => by
    rcases tLe_total b x y with h | h
    · show (SF.tLe b x y || SF.tLe b y x) = true; rw [h]; rfl
    · show (SF.tLe b x y || SF.tLe b y x) = true; rw [h]; simp) l
/-- what counts holds: a dict of the run, or the one whose only key is the written empty tuple at b -/
def Cnt (P : Program) (w : World) (K : PySem.W.Frag) (ob : Option Addr) (H : Hp) (d : Addr) (T : Tb) : Prop := match ob with
  | none => Dt RI H d T
  | some b => T = [([], 1)] ∧ (∀ H2, SqT K H2 b []) ∧ H d = some (OneO P w d b [] 1)
/-- a key of it -/
def RC (K : PySem.W.Frag) (ob : Option Addr) : Rv Pt := fun H v ns => match ob with
  | none => RT H v ns
  | some b => v = .ref b ∧ ns = [] ∧ ∀ H2, SqT K H2 b []
theorem mo_RC {ob : Option Addr} : Mo (RC K ob) := fun e => by
  cases ob with
  | none => exact fun h => mo_RT e h
  | some b => exact fun h => h
theorem RC.rs {ob : Option Addr} {H : Hp} {v : V} {ns : Pt} (h : RC K ob H v ns) : RS K H v ns := by
  cases ob with
  | none => exact RT.rs h
  | some b =>
    obtain ⟨h1, h2, h3⟩ := h
    exact ⟨b, h1, .inr fun H2 => by rw [h2]; exact h3 H2⟩
theorem Cnt.ex {ob : Option Addr} {H H' : Hp} {d : Addr} {T : Tb} (h : Cnt P w K ob H d T) (e : Ex H H') : Cnt P w K ob H' d T := by
  cases ob with
  | none => exact Dt.mo mo_RI h e
  | some b => exact ⟨h.1, h.2.1, e _ _ h.2.2⟩
theorem Cnt.ne {ob : Option Addr} {H : Hp} {d D : Addr} {T : Tb} (h : Cnt P w K ob H d T) (hD : H D = none) : d ≠ D := by
  cases ob with
  | none =>
    obtain ⟨_, h1, _⟩ := h
    exact ne_of_none h1 hD
  | some b => exact ne_of_none h.2.2 hD
theorem all_L {H : Hp} : ∀ L : List (Addr × List Int), (∀ x ∈ L, H x.1 = some (.tup (x.2.map V.int))) → All RT H (L.map fun x => V.ref x.1) (L.map (·.2))
  | [], _ => .nil
  | x :: L, h => .cons ⟨x.1, rfl, h x (List.mem_cons_self ..)⟩ (all_L L fun y hy => h y (List.mem_cons_of_mem _ hy))
theorem sort_dict {H : Hp} {Q : VK} {b : Bool} {α : Type} {R : Rv α} {d : Addr} {T : List (Pt × α)} (h : Dt R H d T) (hl : T.length ≤ 100000) (hs : T.length ≤ 1 ∨ ∀ k ∈ T.map (·.1), k ≠ [])
    (q : ∀ l us, H l = none → All RT (upd H l (.lst us)) us (sortT b (T.map (·.1))) → Q (.ref l) (upd H l (.lst us))) : rSortD b [.ref d] H Q := by
  obtain ⟨kvs, h1, h2⟩ := h
  have hk : kvs.map (·.1) = (T.map (·.1)).map (fun k => k.map Sum.inl) := h2.keys
  refine ⟨d, kvs, T.map (·.1), rfl, .inl h1, hk, by rw [List.length_map]; exact hl, by rw [List.length_map]; exact hs, fun L p e1 e2 hp => q p _ hp ?_⟩
  rw [← sortT_uniq, ← e1]
  exact (all_L L e2).mo mo_RT (.nw hp)
theorem sort_cnt {ob : Option Addr} {H : Hp} {Q : VK} {d : Addr} {T : Tb} (h : Cnt P w K ob H d T) (hl : T.length ≤ 100000) (hs : T.length ≤ 1 ∨ ∀ k ∈ T.map (·.1), k ≠ [])
    (q : ∀ l us, H l = none → All (RC K ob) (upd H l (.lst us)) us (sortT false (T.map (·.1))) → Q (.ref l) (upd H l (.lst us))) :
    rSortD false [.ref d] H Q ∨ ∃ d' b ks n, [V.ref d] = [.ref d'] ∧ H d' = some (OneO P w d' b ks n) ∧ SqT K H b (ks.map kV) ∧ ∀ p, H p = none → Q (.ref p) (upd H p (.lst [.ref b])) := by
  cases ob with
  | none => exact .inl (sort_dict h hl hs q)
  | some b =>
    obtain ⟨h1, h2, h3⟩ := h
    refine .inr ⟨d, b, [], 1, rfl, h3, h2 H, fun p hp => q p _ hp ?_⟩
    rw [h1]
    exact .cons ⟨rfl, rfl, h2⟩ .nil
theorem get_cnt {ob : Option Addr} {H : Hp} {d : Addr} {T : Tb} {y : V} {ns : Pt} (h : Cnt P w K ob H d T) (hy : RC K ob H y ns) (nd : (T.map (·.1)).Nodup) (hm : ns ∈ T.map (·.1)) :
    DGet H d y (some (.int ((SF.get T ns).getD 0))) ∨ ∃ b ks n, y = .ref b ∧ V.int ((SF.get T ns).getD 0) = .int n ∧ H d = some (OneO P w d b ks n) ∧ SqT K H b (ks.map kV) := by
  cases ob with
  | none =>
    obtain ⟨o, g, ho⟩ := dt_get h hy
    obtain ⟨qq, hq1, hq2⟩ := List.mem_map.mp hm
    have gq : SF.get T ns = some qq.2 := by rw [← hq2]; exact get_mem nd hq1
    rcases ho with ⟨_, g0⟩ | ⟨v, x, h1, h2, h3⟩
    · rw [gq] at g0; cases g0
    · subst h1
      rw [show v = V.int x from h3] at g
      rw [h2]
      exact .inl g
  | some b =>
    obtain ⟨h1, h2, h3⟩ := h
    obtain ⟨g1, g2, g3⟩ := hy
    subst g2 h1
    exact .inr ⟨b, [], 1, g1, rfl, h3, h2 H⟩
def spCount (K : PySem.W.Frag) : Sp := fun vs H Q _ => ∃ (x y : V) (p μ : Pt) (e : Addr), vs = [x, y, .ref e] ∧ RT H x p ∧ RT H y μ ∧ (∀ H2, SqT K H2 e []) ∧ cntOk p μ = true ∧ ∀ H', Ex H H' → Q (.int (countF p μ)) H'
theorem dt_getI {H : Hp} {D : Addr} {T : Tb} {y : V} {e : Pt} (h : Dt RI H D T) (ry : RT H y e) : ∃ o, DGet H D y o ∧ o.getD (.int 0) = .int ((SF.get T e).getD 0) := by
  obtain ⟨o, g, ho⟩ := dt_get h ry
  refine ⟨o, g, ?_⟩
  rcases ho with ⟨h1, h2⟩ | ⟨v, x, h1, h2, h3⟩
  · rw [h1, h2]; rfl
  · rw [h1, h2, show v = V.int x from h3]; rfl
theorem strip_mem {b : Pt} {k : Int} {a : Pt} (h : a ∈ withStrip b k) : a.length ≤ b.length + 1 := by
  unfold withStrip at h
  obtain ⟨r, hr, rfl⟩ := List.mem_map.mp h
  have h1 := rows_mem _ _ _ _ hr
  have h2 : (pos r).length ≤ r.length := List.length_filter_le _ _
  rw [List.length_append] at h1
  have : ([0] : Pt).length = 1 := rfl
  omega
theorem empty_at {a : Addr} (h : emptyAt K a = true) (H : Hp) : SqT K H a [] := by
  unfold emptyAt at h
  cases q : K.lookup a with
  | none => rw [q] at h; cases h
  | some o =>
    obtain ⟨oc, od, dt, sl⟩ := o
    rw [q] at h
    cases oc with
    | type c =>
      cases dt with
      | seq its n =>
        obtain ⟨h1, h2⟩ := He.ba h
        have e1 : c = "tuple" := of_decide_eq_true h1
        have e2 : its.size = 0 := of_decide_eq_true h2
        subst e1
        have e3 : its = #[] := Array.eq_empty_of_size_eq_zero e2
        subst e3
        exact .inr ⟨_, #[], n, q, rfl, rfl, Nat.zero_le _, .nil⟩
      | _ => cases h
    | _ => cases dt <;> cases h
theorem sc_count_fillings : FnScope ["outer", "content", "inner", "counts", "k", "later", "b", "a"] ["outer", "content", "inner"] (defScope (top 27)) := ⟨rfl, rfl, rfl, by decide +kernel, rfl, by decide +kernel, by decide +kernel⟩
theorem ok_count_fillings (T : Tx K mg) : Cal P w K mg base 9 "count_fillings" ["outer", "content", "inner"] [.ref (He.dflAt ("count_fillings", none) 0 K)] (spCount K) := by
  have c_with_strip := ok_with_strip (P := P) (w := w) (base := base) T
  have c_holds := ok_holds (P := P) (w := w) (base := base) T
  obtain ⟨fd, F⟩ := T.d 10 _ rfl
  have sc := sc_count_fillings
  obtain ⟨us, dsv, bd⟩ := FunD.binds1 (ps := ["outer", "content", "inner"]) F 2 0 (by intro z; cases z) rfl (fun _ _ _ _ _ _ _ us its h1 h2 => match us, its, h1, h2 with | [_, _], [_], _, _ => ⟨_, rfl, rfl⟩)
  refine ⟨_, fd, _, FunD.ok (k := 8) F sc (fun vs H Q E h => by obtain ⟨_, _, _, _, _, rfl, _⟩ := h; rfl) (fun cdv A outer s H vs Q E hr h => ?_), T.g "count_fillings" (by decide +kernel), F.kp, bd, dsv⟩
  refine ⟨_, PSs.nox ((pss_cons (ps_set (i := 3) sc.nd rfl (Or.inl rfl) (pe_disp1 hr.units0 (pv 2) pe_int))
  (pss_cons (ps_for PassesOwn.never rfl (pi_tup (pv 1)) (pg_name (i := 4) sc.nd rfl (Or.inl rfl))
  (pss_cons (ps_set (i := 5) sc.nd rfl (Or.inl rfl) pe_dnewT)
  (pss_cons (ps_for PassesOwn.never rfl (pi_list (pe_callB (cr_sortedC rfl (hr.mono (by decide))) (by rfl) (T.f "sorted" (by decide +kernel)) (by decide +kernel) (pa_cons (pv 3) pa_nil))) (pg_name (i := 6) sc.nd rfl (Or.inl rfl))
  (pss_one (ps_for PassesOwn.never rfl (pi_tup (pe_cg c_with_strip (hr.mono (by decide)) (pa_cons (pv 6) (pa_cons (pv 4) pa_nil)))) (pg_name (i := 7) sc.nd rfl (Or.inl rfl))
  (pss_one (ps_if (pt_val (pe_cg c_holds (hr.mono (by decide)) (pa_cons (pv 0) (pa_cons (pv 7) pa_nil))))
  (pss_one (ps_dput (hu_of hr) (pv 5) (pv 7) (pe_op op_add (pe_dget2 (hu_of hr) (pv 5) (pv 7) pe_int ⟨rfl, rfl, rfl, rfl⟩) (pe_dgetC (hu_of hr) (pv 3) (pv 6) (fun _ _ => rfl))) rfl)) pss_nil)))))
  (pss_one (ps_set (i := 3) sc.nd rfl (Or.inl rfl) (pe_callTy (call_dictT (hr.mono (by decide))) (by rfl) (T.f "dict" (by decide +kernel)) (by decide +kernel) (pa_cons (pv 5) pa_nil)))))))
  (pss_one (ps_ret (pe_dget2C (hu_of hr) (pv 3) (pv 0) pe_int ⟨rfl, rfl, rfl, rfl⟩)))))), ?_⟩
  obtain ⟨x, y, p, μ, e, rfl, hx, ⟨ty, rfl, hty⟩, he, hok, hQ⟩ := h
  obtain ⟨ok1, ok2⟩ := He.ba hok
  have okA : ∀ i, i ≤ μ.length → cntAt p μ i = true := fun i hi => List.all_eq_true.mp ok1 i (List.mem_range.mpr (by omega))
  refine fun d hd => ⟨_, rfl, upd_same, e, [], rfl, .inr ⟨1, rfl, he _, ?_⟩⟩
  have e1 : Ex H (upd (upd H d (.dT [])) d (OneO P w d e [] 1)) := (Ex.nw hd).mt hd
  refine ⟨_, rfl, ty, rfl, ⟨_, SqT.of (e1 _ _ hty)⟩, ?_⟩
  refine for_seqT (all_ints _ μ) mo_RI (stripStep p) [([], 1)] (fun i T' σ H' => ∃ d9 ob c4 c5 c6 c7, σ = [some x, some (.ref ty), some (.ref e), some (.ref d9), c4, c5, c6, c7] ∧ Ex (upd (upd H d (.dT [])) d (OneO P w d e [] 1)) H' ∧ Ex H H' ∧ Cnt P w K ob H' d9 T' ∧ T' = (μ.take i).foldl (stripStep p) [([], 1)]) ⟨d, some e, none, none, none, none, rfl, .rf, e1, ⟨rfl, he, upd_same⟩, rfl⟩ (fun i T' σ H' h => ?_) (fun i T' k x' σ H1 hi hx' h => ?_) fun σ H' h => ?_
  · obtain ⟨d', ob, c4, c5, c6, c7, rfl, hE, _⟩ := h
    exact ⟨SqT.of (hE _ _ (e1 _ _ hty)), .of hE⟩
  · obtain ⟨d', ob, c4, c5, c6, c7, rfl, hE, hEH, hC, hT⟩ := h
    have hx'' : x' = .int k := hx'
    subst hx''
    have hi2 := (List.getElem?_eq_some_iff.mp hi).1
    have A := okA i (by omega)
    have A1 := okA (i + 1) (by omega)
    unfold cntAt at A A1
    rw [fold_take (stripStep p) [([], 1)] hi, ← hT] at A1
    rw [← hT] at A
    obtain ⟨a1, a2⟩ := He.ba A
    obtain ⟨a2, a3⟩ := He.ba a2
    obtain ⟨okk, l50⟩ := okT_ok a1
    obtain ⟨okk1, _⟩ := okT_ok (He.ba A1).1
    have kb := List.all_eq_true.mp ok2 k (List.mem_of_getElem? hi)
    obtain ⟨k0, k4⟩ := He.ba kb
    have k0 := of_decide_eq_true k0
    have k4 := of_decide_eq_true k4
    have gd : μ.getD i 0 = k := by rw [List.getD_eq_getElem?_getD, hi]; rfl
    rw [gd] at a3
    refine fun D hD => ?_
    have eD : Ex H1 (upd H1 D (.dT [])) := .nw hD
    refine ⟨_, rfl, nil_of (sort_cnt (hC.ex eD) (by omega) ?_ fun l us hl hA => ⟨l, rfl, ⟨_, SqL.of upd_same⟩, ?_⟩)⟩
    · rcases (Bool.or_eq_true _ _).mp a2 with z | z
      · exact .inl (of_decide_eq_true z)
      · exact .inr fun k hk => of_decide_eq_true (List.all_eq_true.mp z k hk)
    have eS : Ex H1 (upd (upd H1 D (.dT [])) l (.lst us)) := eD.tr (.nw hl)
    have lD : l ≠ D := fun z => by rw [z, upd_same] at hl; cases hl
    have B0 : Bd RI [] H1 D [] (upd (upd H1 D (.dT [])) l (.lst us)) := (Bd.new hD).grow mo_RI (.nw hl)
    refine for_seqL hA mo_RC (fun later b => (withStrip b k).foldl (fun later a => if SF.holds p a = true then bump later a ((SF.get T' b).getD 0) else later) later) [] (fun j T2 σ H3 => ∃ c6 c7, σ = [some x, some (.ref ty), some (.ref e), some (.ref d'), some (.int k), some (.ref D), c6, c7] ∧ Bd RI [] H1 D T2 H3 ∧ ExS [D] (upd (upd H1 D (.dT [])) l (.lst us)) H3 ∧ T2.length ≤ j * 100) ⟨c6, c7, rfl, B0, .rf, Nat.zero_le _⟩ (fun j T2 σ H3 h => ?_) (fun j T2 bk y6 σ H3 hj hy6 h => ?_) fun σ H3 h => ?_
    · obtain ⟨c6, c7, rfl, hB, hES, _⟩ := h
      exact ⟨SqL.of (hES l _ (fun z => lD (List.mem_singleton.mp z)) upd_same), dt_imm B0.tab hES⟩
    · obtain ⟨c6, c7, rfl, hB, hES, hL2⟩ := h
      have hj2 := (List.getElem?_eq_some_iff.mp hj).1
      rw [(sortT_perm false _).length_eq, List.length_map] at hj2
      have hbk : bk ∈ T'.map (·.1) := (sortT_perm false _).mem_iff.mp (List.mem_of_getElem? hj)
      obtain ⟨u1, u2⟩ := uni_small bk (okk.2 bk hbk)
      have ws : (withStrip bk k).length ≤ 100 := by
        obtain ⟨qq, hq1, hq2⟩ := List.mem_map.mp hbk
        have z := of_decide_eq_true (List.all_eq_true.mp a3 qq hq1)
        rw [hq2] at z
        exact z
      refine ⟨_, rfl, _, rfl, y6, bk, k, rfl, hy6.rs, u1, u2, k0, k4, fun v H4 e4 hv => ?_⟩
      obtain ⟨t4, us4, rfl, ht4, hA4⟩ := hv
      refine ⟨t4, rfl, ⟨_, SqT.of ht4⟩, ?_⟩
      have B4 := hB.grow mo_RI e4
      have t4D : t4 ≠ D := fun z => by
        obtain ⟨kd, d1, _⟩ := B4.tab
        rw [z, d1] at ht4
        cases ht4
      refine for_seqT hA4 mo_RT (fun later a => if SF.holds p a = true then bump later a ((SF.get T' bk).getD 0) else later) T2 (fun m T3 σ H5 => ∃ c7, σ = [some x, some (.ref ty), some (.ref e), some (.ref d'), some (.int k), some (.ref D), some y6, c7] ∧ Bd RI [] H1 D T3 H5 ∧ ExS [D] H4 H5 ∧ T3.length ≤ j * 100 + m) ⟨c7, rfl, B4, .rf, hL2⟩ (fun m T3 σ H5 h => ?_) (fun m T3 ak x7 σ H5 hm hx7 h => ?_) fun σ H5 h => ?_
      · obtain ⟨c7, rfl, hB5, hE5, _⟩ := h
        exact ⟨SqT.of (hE5 t4 _ (fun z => t4D (List.mem_singleton.mp z)) ht4), dt_imm B4.tab hE5⟩
      · obtain ⟨c7, rfl, hB5, hE5, hL3⟩ := h
        have hm2 := (List.getElem?_eq_some_iff.mp hm).1
        have ak5 := strip_mem (List.mem_of_getElem? hm)
        refine ⟨_, rfl, _, rfl, x, x7, p, ak, rfl, mo_RT (.of (hEH.tr hB5.ex.ex)) hx, hx7, by omega, fun H6 e6 => ⟨_, rfl, ?_⟩⟩
        have B6 := hB5.grow mo_RI e6
        have r7 := mo_RT (.of e6) hx7
        by_cases hh : SF.holds p ak = true
        · refine ifT hh ?_
          obtain ⟨o, g, ho⟩ := dt_getI B6.tab r7
          have im6 : Imm (upd (upd H1 D (.dT [])) l (.lst us)) H6 := (dt_imm B0.tab hES).tr ((Imm.of e4).tr ((dt_imm B4.tab hE5).tr (.of e6)))
          have ry6 : RC K ob H6 y6 bk := mo_RC ((Imm.of e4).tr ((dt_imm B4.tab hE5).tr (.of e6))) hy6
          refine ⟨_, rfl, D, rfl, B6.tab.isD, _, rfl, o, g, _, rfl, _, rfl, d', _, rfl, get_cnt (hC.ex B6.ex.ex) ry6 okk.1 hbk, ?_⟩
          obtain ⟨H7, g1, g2, g3⟩ := dt_put mo_RI B6.tab (by omega) r7 (v := .int ((SF.get T3 ak).getD 0 + (SF.get T' bk).getD 0)) rfl
          refine ⟨_, _, ho, rfl, _, rfl, _, rfl, D, H7, rfl, g1, _, rfl, ?_⟩
          rw [if_pos hh]
          refine ⟨B6.step g2 g3, (hE5.tr e6).trS g2, ?_⟩
          have := bump_len T3 ak ((SF.get T' bk).getD 0)
          omega
        · refine ifF (Bool.eq_false_iff.mpr hh) ⟨_, rfl, ?_⟩
          rw [if_neg hh]
          exact ⟨B6, hE5.tr e6, by omega⟩
      · obtain ⟨c7, rfl, hB5, hE5, hL3⟩ := h
        exact ⟨_, _, rfl, hB5, (hES.tr e4).trS hE5, by omega⟩
    · obtain ⟨c6, c7, rfl, hB, hES, hL2⟩ := h
      obtain ⟨kd, d1, d2⟩ := hB.tab
      refine ⟨_, rfl, D, kd, rfl, .inl d1, apart_of d2 okk1, fun q hq => ?_⟩
      have eq3 : Ex H1 (upd H3 q (.dT kd)) := hB.ex.ex.tr (.nw hq)
      refine ⟨q, none, _, _, _, _, rfl, hE.tr eq3, hEH.tr eq3, ⟨kd, upd_same, d2.mo mo_RI (.nw hq)⟩, ?_⟩
      rw [fold_take (stripStep p) [([], 1)] hi, ← hT]
  · obtain ⟨d', ob, c4, c5, c6, c7, rfl, hE, hEH, hC, hT⟩ := h
    have hx2 := mo_RT (.of hEH) hx
    cases ob with
    | none =>
      obtain ⟨o, g, ho⟩ := dt_getI hC hx2
      refine ⟨_, rfl, d', rfl, .inl (Dt.isD hC), _, rfl, .inl ⟨o, g, ?_⟩⟩
      rw [ho]
      exact hQ _ hEH
    | some b =>
      obtain ⟨h1, h2, h3⟩ := hC
      obtain ⟨tx, rfl, htx⟩ := hx2
      refine ⟨_, rfl, d', rfl, .inr ⟨b, [], 1, h3, h2 _⟩, _, rfl, .inr ⟨b, tx, [], KI p, 1, rfl, h3, h2 _, by rw [KI_kV]; exact htx, ?_⟩⟩
      have e : (if ([] : List Key) = KI p then V.int 1 else .int 0) = .int (countF p μ) := by
        unfold countF
        rw [h1]
        cases p with
        | nil => rfl
        | cons a p => rfl
      rw [e]
      exact hQ _ hEH
end
end FB
namespace FB
open PySem PySem.Spec PyProof.Rows L2 SF FR
section
variable {P : Program} {w : World} {K : PySem.W.Frag} {mg : Str → Option Value} {base : Heap}
def spCoef : Sp := fun vs H Q _ => ∃ (b : SF.B) (x y : V) (p μ : Pt), vs = [.str (bstr b), x, y] ∧ RT H x p ∧ RT H y μ ∧ coefOk b p μ = true ∧ ∀ H', Ex H H' → Q (.int (coefIn b p μ)) H'
theorem choices_len (b : SF.B) (k : Nat) (rest : Pt) (h1 : rest.length ≤ 4) (h2 : k ≤ 8) : (choices b k rest).length ≤ 1000 := by
  unfold choices
  exact Nat.le_trans (List.length_filterMap_le _ _) (by rw [Int.toNat_natCast]; exact len_exps _ h1 _ h2)
theorem choices_mem (b : SF.B) (k : Int) (rest v : Pt) (h : v ∈ choices b k rest) : v.length ≤ rest.length := by
  unfold choices at h
  obtain ⟨u, hu, e⟩ := List.mem_filterMap.mp h
  split at e
  · cases e
    have h1 : (desc (List.zipWith (· - ·) rest u)).length = (pos (List.zipWith (· - ·) rest u)).length := (sortD_perm _).length_eq
    have h2 : (pos (List.zipWith (· - ·) rest u)).length ≤ (List.zipWith (· - ·) rest u).length := List.length_filter_le _ _
    rw [List.length_zipWith] at h2
    omega
  · cases e
theorem sc_coefficient_in : FnScope ["base", "part", "exponent", "ways", "k", "later", "rest", "left"] ["base", "part", "exponent"] (defScope (top 47)) := ⟨rfl, rfl, rfl, by decide +kernel, rfl, by decide +kernel, by decide +kernel⟩
theorem ok_coefficient_in (T : Tx K mg) : Cal P w K mg base 13 "coefficient_in" ["base", "part", "exponent"] [] (spCoef) := by
  have c_choices := ok_choices (P := P) (w := w) (base := base) T
  have c_count_fillings := ok_count_fillings (P := P) (w := w) (base := base) T
  obtain ⟨fd, F⟩ := T.d 19 _ rfl
  have sc := sc_coefficient_in
  refine ⟨_, fd, [], FunD.ok (k := 12) F sc (fun vs H Q E h => by obtain ⟨_, _, _, _, _, rfl, _⟩ := h; rfl) (fun cdv A outer s H vs Q E hr h => ?_), T.g "coefficient_in" (by decide +kernel), F.kp, FunD.bindsN F (fun _ _ _ _ _ _ us hl => match us, hl with | [_, _, _], _ => rfl), .nil⟩
  refine ⟨_, PSs.nox ((pss_cons (ps_if (pt_cmpR op_eq (pv 0) pe_str (nomark _))
  (pss_one (ps_ret (pe_callTy call_int1 (by rfl) (T.f "int" (by decide +kernel)) (by decide +kernel) (pa_cons (pe_cmpR (op_eqP (hr.mono (by decide))) (pv 1) (pv 2) (nomark _)) pa_nil)))) pss_nil)
  (pss_cons (ps_if (pt_cmpR op_eq (pv 0) pe_str (nomark _))
  (pss_one (ps_ret (pe_cg c_count_fillings (hr.mono (by decide)) (pa_cons (pv 1) (pa_cons (pv 2) pa_nil))))) pss_nil)
  (pss_cons (ps_set (i := 3) sc.nd rfl (Or.inl rfl) (pe_disp1 hr.units0 (pv 2) pe_int))
  (pss_cons (ps_for PassesOwn.never rfl (pi_tup (pv 1)) (pg_name (i := 4) sc.nd rfl (Or.inl rfl))
  (pss_cons (ps_set (i := 5) sc.nd rfl (Or.inl rfl) pe_dnewT)
  (pss_cons (ps_lock (ps_for PassesOwn.never rfl (pi_keys (pv 3)) (pg_name (i := 6) sc.nd rfl (Or.inl rfl))
  (pss_one (ps_for PassesOwn.never rfl (pi_list (pe_cg c_choices (hr.mono (by decide)) (pa_cons (pv 0) (pa_cons (pv 4) (pa_cons (pv 6) pa_nil))))) (pg_name (i := 7) sc.nd rfl (Or.inl rfl))
  (pss_one (ps_dput (hu_of hr) (pv 5) (pv 7) (pe_op op_add (pe_dget2 (hu_of hr) (pv 5) (pv 7) pe_int ⟨rfl, rfl, rfl, rfl⟩) (pe_dget (hu_of hr) (pv 3) (pv 6) (fun _ _ => rfl))) rfl))))))
  (pss_one (ps_set (i := 3) sc.nd rfl (Or.inl rfl) (pe_callTy (call_dictT (hr.mono (by decide))) (by rfl) (T.f "dict" (by decide +kernel)) (by decide +kernel) (pa_cons (pv 5) pa_nil)))))))
  (pss_one (ps_ret (pe_dget2 (hu_of hr) (pv 3) (pe_tup pa_nil) pe_int ⟨rfl, rfl, rfl, rfl⟩)))))))), ?_⟩
  obtain ⟨b, x, y, p, μ, rfl, hx, hy, hok, hQ⟩ := h
  obtain ⟨ku, hok⟩ := He.ba hok
  obtain ⟨mu, hok⟩ := He.ba hok
  have ku := of_decide_eq_true ku
  have mu := of_decide_eq_true mu
  refine ⟨_, rfl, rfl, _, rfl, ?_⟩
  show if decide (V.str (bstr b) = V.str "m") = true then _ else _
  rw [str_m]
  by_cases bm : b = .m
  · refine ifT (decide_eq_true bm) ⟨_, rfl, _, rfl, eqP_of hx hy fun H' e => .inr ⟨_, rfl, ?_⟩⟩
    have ec : coefIn b p μ = if p = μ then 1 else 0 := by unfold coefIn; rw [if_pos bm]
    rw [ec] at hQ
    by_cases c : p = μ
    · rw [if_pos c] at hQ
      rw [decide_eq_true c]
      exact hQ _ e
    · rw [if_neg c] at hQ
      rw [decide_eq_false c]
      exact hQ _ e
  rw [if_neg bm] at hok
  refine ifF (decide_eq_false bm) ⟨_, rfl, rfl, _, rfl, ?_⟩
  show if decide (V.str (bstr b) = V.str "s") = true then _ else _
  rw [str_s]
  by_cases bs : b = .s
  · rw [if_pos bs] at hok
    have ec : coefIn b p μ = countF p μ := by unfold coefIn; rw [if_neg bm, if_pos bs]
    rw [ec] at hQ
    exact ifT (decide_eq_true bs) ⟨_, rfl, _, rfl, x, y, p, μ, _, rfl, hx, hy, fun H2 => empty_at T.exC.2.2.2.2.2.1 H2, hok, hQ⟩
  rw [if_neg bs] at hok
  have ec : coefIn b p μ = (SF.get (p.foldl (wayStep b) [(μ, 1)]) []).getD 0 := by unfold coefIn; rw [if_neg bm, if_neg bs]
  rw [ec] at hQ
  obtain ⟨ok1, ok2⟩ := He.ba hok
  have okA : ∀ i, i ≤ p.length → okT ((p.take i).foldl (wayStep b) [(μ, 1)]) = true := fun i hi => List.all_eq_true.mp ok1 i (List.mem_range.mpr (by omega))
  obtain ⟨tx, rfl, htx⟩ := id hx
  obtain ⟨ty, rfl, hty⟩ := id hy
  refine ifF (decide_eq_false bs) ?_
  refine fun d hd => ⟨_, rfl, upd_same, ty, KI μ, rfl, .inl ⟨by rw [KI_kV]; exact upd_new hd hty, ?_⟩⟩
  have e1 : Ex H (upd (upd H d (.dT [])) d (.dT [(KI μ, .int 1)])) := (Ex.nw hd).mt hd
  refine ⟨_, rfl, tx, rfl, ⟨_, SqT.of (e1 _ _ htx)⟩, ?_⟩
  refine for_seqT (all_ints _ p) mo_RI (wayStep b) [(μ, 1)] (fun i T' σ H' => ∃ d9 c4 c5 c6 c7, σ = [some (.str (bstr b)), some (.ref tx), some (.ref ty), some (.ref d9), c4, c5, c6, c7] ∧ Ex (upd (upd H d (.dT [])) d (.dT [(KI μ, .int 1)])) H' ∧ Ex H H' ∧ Dt RI H' d9 T' ∧ T' = (p.take i).foldl (wayStep b) [(μ, 1)]) ⟨d, none, none, none, none, rfl, .rf, e1, ⟨_, upd_same, .cons ⟨rfl, rfl⟩ .nil⟩, rfl⟩ (fun i T' σ H' h => ?_) (fun i T' k x' σ H1 hi hx' h => ?_) fun σ H' h => ?_
  · obtain ⟨d', c4, c5, c6, c7, rfl, hE, _⟩ := h
    exact ⟨SqT.of (hE _ _ (e1 _ _ htx)), .of hE⟩
  · obtain ⟨d', c4, c5, c6, c7, rfl, hE, hEH, hC, hT⟩ := h
    have hx'' : x' = .int k := hx'
    subst hx''
    have hi2 := (List.getElem?_eq_some_iff.mp hi).1
    have A := okA i (by omega)
    have A1 := okA (i + 1) (by omega)
    rw [fold_take (wayStep b) [(μ, 1)] hi, ← hT] at A1
    rw [← hT] at A
    obtain ⟨okk, l50⟩ := okT_ok A
    obtain ⟨okk1, _⟩ := okT_ok A1
    have kb := List.all_eq_true.mp ok2 k (List.mem_of_getElem? hi)
    obtain ⟨k0, k4⟩ := He.ba kb
    have k0 := of_decide_eq_true k0
    have k4 := of_decide_eq_true k4
    obtain ⟨kn, hkn⟩ : ∃ kn : Nat, k = (kn : Int) := ⟨k.toNat, by omega⟩
    refine fun D hD => ?_
    obtain ⟨kw, w1, w2⟩ := id hC
    have eD : Ex H1 (upd H1 D (.dT [])) := .nw hD
    have dD : d' ≠ D := ne_of_none w1 hD
    refine ⟨d', _, eD _ _ w1, trivial, fun od => ⟨_, rfl, d', od, rfl, .inr ⟨kw, upd_same, ?_⟩⟩⟩
    have im0 : Imm H1 (upd (upd H1 D (.dT [])) d' (.frz od (.dT kw))) := (Imm.of eD).tr (.dT (eD _ _ w1))
    have B0 : Bd RI [d'] H1 D [] (upd (upd H1 D (.dT [])) d' (.frz od (.dT kw))) := ⟨.lock (.of eD), hD, [], by rw [upd_ne (Ne.symm dD), upd_same], .nil⟩
    refine for_keysT (w2.mo mo_RI im0) mo_RI (fun later rest => (choices b k rest.1).foldl (fun later left => bump later left rest.2) later) [] (fun j T2 σ H3 => ∃ c6 c7, σ = [some (.str (bstr b)), some (.ref tx), some (.ref ty), some (.ref d'), some (.int k), some (.ref D), c6, c7] ∧ Bd RI [d'] H1 D T2 H3 ∧ H3 d' = some (.frz od (.dT kw)) ∧ Imm H1 H3 ∧ Imm (upd (upd H1 D (.dT [])) d' (.frz od (.dT kw))) H3 ∧ T2.length ≤ j * 1000) ⟨c6, c7, rfl, B0, upd_same, im0, .rf, Nat.zero_le _⟩ (fun j T2 σ H3 h => ?_) (fun j T2 q v y6 σ H3 hj hkj hv hy6 h => ?_) fun σ H3 h => ?_
    · obtain ⟨c6, c7, rfl, hB, h1, h2, h3, _⟩ := h
      exact ⟨h1, h3⟩
    · obtain ⟨c6, c7, rfl, hB, h1, h2, h3, hL2⟩ := h
      have hj2 := (List.getElem?_eq_some_iff.mp hj).1
      have hq : q ∈ T' := List.mem_of_getElem? hj
      have hqk : q.1 ∈ T'.map (·.1) := List.mem_map.mpr ⟨q, hq, rfl⟩
      obtain ⟨u1, u2⟩ := uni_small q.1 (okk.2 q.1 hqk)
      have cl := choices_len b kn q.1 u1 (by omega)
      rw [← hkn] at cl
      refine ⟨_, rfl, _, rfl, _, rfl, b, kn, y6, q.1, lst3 rfl (vint hkn) rfl, hy6, u1, by omega, fun v4 H4 e4 hv4 => ?_⟩
      rw [← hkn] at hv4
      obtain ⟨l, us, rfl, hl, hl4, hA⟩ := hv4
      have hB4 := hB.grow mo_RI e4
      have lD : l ≠ D := fun z => by
        obtain ⟨_, g, _⟩ := hB.tab
        rw [z, g] at hl
        cases hl
      refine ⟨l, rfl, ⟨_, SqL.of hl4⟩, ?_⟩
      refine for_seqL hA mo_RT (fun later left => bump later left q.2) T2 (fun m T3 σ H5 => ∃ c7, σ = [some (.str (bstr b)), some (.ref tx), some (.ref ty), some (.ref d'), some (.int k), some (.ref D), some y6, c7] ∧ Bd RI [d'] H1 D T3 H5 ∧ ExS [D] H4 H5 ∧ T3.length ≤ j * 1000 + m) ⟨c7, rfl, hB4, .rf, hL2⟩ (fun m T3 σ H5 h => ?_) (fun m T3 ak x7 σ H5 hm hx7 h => ?_) fun σ H5 h => ?_
      · obtain ⟨c7, rfl, hB5, hE5, _⟩ := h
        exact ⟨SqL.of (hE5 l _ (fun z => lD (List.mem_singleton.mp z)) hl4), dt_imm hB4.tab hE5⟩
      · obtain ⟨c7, rfl, hB5, hE5, hL3⟩ := h
        have hm2 := (List.getElem?_eq_some_iff.mp hm).1
        have im5 : Imm H3 H5 := (Imm.of e4).tr (dt_imm hB4.tab hE5)
        have f5 : H5 d' = some (.frz od (.dT kw)) := hE5 _ _ (fun z => dD (List.mem_singleton.mp z)) (e4 _ _ h1)
        obtain ⟨o, g, ho⟩ := dt_getI hB5.tab hx7
        obtain ⟨o2, g2, ho2⟩ := fz_get f5 (w2.mo mo_RI (h2.tr im5)) (mo_RT im5 hy6)
        have gq : SF.get T' q.1 = some q.2 := get_mem okk.1 hq
        have g2' : DGet H5 d' y6 (some (.int q.2)) := by
          rcases ho2 with ⟨_, g0⟩ | ⟨v', x', hv', g0, r0⟩
          · rw [gq] at g0; cases g0
          rw [gq] at g0
          cases g0
          rw [hv', show v' = V.int q.2 from r0] at g2
          exact g2
        refine ⟨_, rfl, D, rfl, hB5.tab.isD, _, rfl, o, g, _, rfl, _, rfl, d', _, rfl, g2', ?_⟩
        obtain ⟨H7, p1, p2, p3⟩ := dt_put mo_RI hB5.tab (by omega) hx7 (v := .int ((SF.get T3 ak).getD 0 + q.2)) rfl
        refine ⟨_, _, ho, rfl, _, rfl, _, rfl, D, H7, rfl, p1, _, rfl, hB5.step p2 p3, hE5.trS p2, ?_⟩
        have := bump_len T3 ak q.2
        omega
      · obtain ⟨c7, rfl, hB5, hE5, hL3⟩ := h
        have im5 : Imm H3 H5 := (Imm.of e4).tr (dt_imm hB4.tab hE5)
        exact ⟨_, _, rfl, hB5, hE5 _ _ (fun z => dD (List.mem_singleton.mp z)) (e4 _ _ h1), h2.tr im5, h3.tr im5, by omega⟩
    · obtain ⟨c6, c7, rfl, hB, h1, h2, h3, hL2⟩ := h
      obtain ⟨kd, d1, d2⟩ := hB.tab
      have im3 : Imm H3 (upd H3 d' (.dT kw)) := .frz h1
      have ex3 : Ex H1 (upd H3 d' (.dT kw)) := (ExS.free hB.ex w1).ex
      refine ⟨h1, _, rfl, D, kd, rfl, .inl (by rw [upd_ne (Ne.symm dD)]; exact d1), apart_of d2 okk1, fun q hq => ?_⟩
      have eq3 : Ex H1 (upd (upd H3 d' (.dT kw)) q (.dT kd)) := ex3.tr (.nw hq)
      refine ⟨q, _, _, _, _, rfl, hE.tr eq3, hEH.tr eq3, ⟨kd, upd_same, d2.mo mo_RI (im3.tr (.nw hq))⟩, ?_⟩
      rw [fold_take (wayStep b) [(μ, 1)] hi, ← hT]
  · obtain ⟨d', c4, c5, c6, c7, rfl, hE, hEH, hC, hT⟩ := h
    refine ⟨_, rfl, d', rfl, Dt.isD hC, t0, fun q hq => ?_⟩
    obtain ⟨o, g, ho⟩ := dt_getI (hC.mo mo_RI (Ex.nw (o := HO.tup []) hq)) (e := []) ⟨q, rfl, upd_same⟩
    refine ⟨o, g, ?_⟩
    rw [ho]
    exact hQ _ (hEH.tr (.nw hq))
end
end FB
namespace FB
open PySem PySem.Spec PyProof.Rows L2 SF FR
section
variable {P : Program} {w : World} {K : PySem.W.Frag} {mg : Str → Option Value} {base : Heap}
theorem op_addR {X : Cx} {k j : Nat} {m : Str} {C : Addr} {ps : List Str} {sp : Sp} {op : Operator} (c : CalM X.prog X.w X.K X.mg X.base k C m ps [] sp) (hs : PySem.W.selfFirst X.K C = true) (hr : Room j X.A) (hj : k ≤ j) (hm : PySem.dunder op.info.2 = m := by decide +kernel) : OpR X (binaryOp op) (rOwn C sp E0) := by
  obtain ⟨f, fd, us, h1, h2, h3, h4⟩ := c
  cases h4
  subst hm
  exact op_own h1 (hr.mono hj) hs h2.at_ h2.fn h3 pass0
/-- a pair of a partition (or exponent) and a Ratio -/
abbrev RQ (K : PySem.W.Frag) : Rv (Pt × Int) := RPr RT (RR K)
theorem mo_RQ : Mo (RQ K) := mo_RPr mo_RT mo_RR
def spAddedParts (tup : Bool) (K : PySem.W.Frag) : Sp := fun vs H Q _ => ∃ (a : Addr) (us : List V) (L : Tb), vs = [.ref a] ∧ H a = some (if tup then .tup us else .lst us) ∧ All (RQ K) H us L ∧ L.length ≤ 50000 ∧ ∀ v H', Ex H H' → RTs (RQ K) H' v (addedParts L) → Q v H'
theorem len_fm {α β : Type} (F : α → Option β) (l : List α) (n : Nat) (h : l.length ≤ n) : (l.filterMap F).length ≤ n := Nat.le_trans (List.length_filterMap_le _ _) h
theorem partsOf_len : ∀ d, d ≤ 8 → (partsOf d).length ≤ 1000 := fun d hd => (parts_len d hd d hd d hd).1
theorem keep_none {T : Tb} {p : Pt} (h : SF.get T p = none) : keepOf T p = none := by unfold keepOf; rw [h]
theorem keep_some {T : Tb} {p : Pt} {c : Int} (h : SF.get T p = some c) : keepOf T p = if c = 0 then none else some (p, c) := by unfold keepOf; rw [h]
theorem bump_none {T : Tb} {e : Pt} (c : Int) (h : SF.get T e = none) : bump T e c = SF.put T e c := by
  unfold SF.bump
  rw [h]
  show SF.put T e (0 + c) = _
  rw [Int.zero_add]
theorem bump_some {T : Tb} {e : Pt} {x : Int} (c : Int) (h : SF.get T e = some x) : bump T e c = SF.put T e (x + c) := by
  unfold SF.bump
  rw [h]
  rfl
theorem sc_added_parts : FnScope ["pairs", "table", "part", "c", "found", "d"] ["pairs"] (defScope (top 48)) := ⟨rfl, rfl, rfl, by decide +kernel, rfl, by decide +kernel, by decide +kernel⟩
theorem ok_added_parts (T : Tx K mg) : Cal P w K mg base 11 "added_parts" ["pairs"] [] (spAddedParts false K) := by
  obtain ⟨tmd, hmd⟩ := T.md
  have c_partitions := ok_partitions (P := P) (w := w) (base := base) T
  have c_is_zero := ok_Ratio_is_zero (P := P) (w := w) (base := base) T
  have c_add := ok_Ratio_add (P := P) (w := w) (base := base) T
  obtain ⟨fd, F⟩ := T.d 20 _ rfl
  have sc := sc_added_parts
  refine ⟨_, fd, [], FunD.ok (k := 10) F sc (fun vs H Q E h => by obtain ⟨_, _, _, rfl, _⟩ := h; rfl) (fun cdv A outer s H vs Q E hr h => ?_), T.g "added_parts" (by decide +kernel), F.kp, FunD.bindsN F (fun _ _ _ _ _ _ us hl => match us, hl with | [_], _ => rfl), .nil⟩
  refine ⟨_, PSs.nox ((pss_cons (ps_set (i := 1) sc.nd rfl (Or.inr rfl) pe_dnewT)
  (pss_cons (ps_for PassesOwn.never rfl (pi_list (pv 0)) (pg_tup rfl (pgs_cons (pg_name (i := 2) sc.nd rfl (Or.inl rfl)) (pgs_cons (pg_name (i := 3) sc.nd rfl (Or.inl rfl)) pgs_nil)))
  (pss_one (ps_if (pt_cmp (pc_din (hu_of hr) (pv 2) (pv 1)))
  (pss_one (ps_dput (hu_of hr) (pv 1) (pv 2) (pe_op (op_addR c_add T.selfR hr (by decide)) (pe_dget (hu_of hr) (pv 1) (pv 2) (fun _ _ => rfl)) (pv 3)) rfl)) (pss_one (ps_dput (hu_of hr) (pv 1) (pv 2) (pv 3) rfl)))))
  (pss_cons (ps_set (i := 4) sc.nd rfl (Or.inl rfl) (pe_lst pa_nil))
  (pss_cons (ps_for PassesOwn.never rfl (pi_range1 rfl (T.f "range" (by decide +kernel)) (pa_cons (pe_op op_add (pe_glob (v := .int 8) rfl hmd ⟨_, rfl⟩) pe_int) pa_nil)) (pg_name (i := 5) sc.nd rfl (Or.inl rfl))
  (pss_one (ps_expr (pe_bm PySem.F.plainAttrs_list PySem.F.slot_list_extend PySem.F.type_list_extend mt_extend (pv 4) (pa_cons (pe_lc (own := [("part", 2)]) rfl sc.nd (pi_tup (pe_cg c_partitions (hr.mono (by decide)) (pa_cons (pv 5) pa_nil))) (blkOk_by (N := ["pairs", "table", "part", "c", "found", "d"]) (sc := defScope (top 48)) (by decide +kernel)) (fun _ _ _ _ _ => (pg_name (i := 2) sc.nd rfl (Or.inl rfl))) (fun _ _ _ _ _ => (pts_one (PW.pt (pw_and (pt_cmp (pc_din (hu_of hr) (pv 2) (pv 1))) (pw_and1 (pt_not (pt_val (pe_mg0 (pe_dget (hu_of hr) (pv 1) (pv 2) (fun _ _ => rfl)) T.cR c_is_zero (hr.mono (by decide)))))))))) (fun _ _ _ _ _ => (pe_tup (pa_cons (pv 2) (pa_cons (pe_dget (hu_of hr) (pv 1) (pv 2) (fun _ _ => rfl)) pa_nil))))) pa_nil)))))
  (pss_one (ps_ret (pe_callTy call_tuple_of (by rfl) (T.f "tuple" (by decide +kernel)) (by decide +kernel) (pa_cons (pv 4) pa_nil))))))))), ?_⟩
  obtain ⟨a, us, L, rfl, ha, hL, hl, hQ⟩ := h
  refine fun D hD => ?_
  have e0 : Ex H (upd H D (.dT [])) := .nw hD
  refine ⟨_, rfl, a, rfl, ⟨_, SqL.of (e0 _ _ ha)⟩, ?_⟩
  refine for_seqL (hL.mo mo_RQ (.of e0)) mo_RQ (fun T kv => bump T kv.1 kv.2) [] (fun i T' σ H1 => ∃ m0 m1 m2 m3, σ = [some (.ref a), some (.ref D), m0, m1, m2, m3] ∧ Bd (RR K) [] H D T' H1 ∧ Imm (upd H D (.dT [])) H1 ∧ T'.length ≤ i) ⟨none, none, none, none, rfl, .new hD, .rf, Nat.zero_le _⟩ (fun i T' σ H1 h => ?_) (fun i T' q x σ H1 hi hx h => ?_) fun σ H1 h => ?_
  · obtain ⟨m0, m1, m2, m3, rfl, hB, hI, _⟩ := h
    exact ⟨SqL.of (hB.ex.ex _ _ ha), hI⟩
  · obtain ⟨m0, m1, m2, m3, rfl, hB, hI, hT⟩ := h
    obtain ⟨t, x1, y1, rfl, ht, r1, r2⟩ := hx
    have hi2 := (List.getElem?_eq_some_iff.mp hi).1
    refine ⟨t, _, rfl, SqT.of ht, rfl, _, _, rfl, _, _, rfl, rfl, ?_⟩
    obtain ⟨o, g, ho⟩ := dt_get hB.tab r1
    refine ⟨_, rfl, _, rfl, D, o, rfl, g, _, rfl, ?_⟩
    rcases ho with ⟨h1, h2⟩ | ⟨v, k, h1, h2, h3⟩
    · subst h1
      refine ifF rfl ?_
      obtain ⟨H3, g1, g2, g3⟩ := dt_put mo_RR hB.tab (by omega) r1 r2
      refine ⟨_, rfl, _, rfl, _, rfl, D, H3, rfl, g1, _, _, _, _, rfl, ?_⟩
      rw [bump_none q.2 h2]
      exact ⟨hB.step g2 g3, hI.tr (hB.imm g2), by have := len_put T' q.1 q.2; omega⟩
    · subst h1
      refine ifT rfl ?_
      obtain ⟨va, dx, rfl, hva⟩ := id h3
      obtain ⟨vb, dy, rfl, hvb⟩ := id r2
      refine ⟨_, rfl, _, rfl, D, _, rfl, g, _, rfl, va, vb, dx, dy, _, _, rfl, rfl, hva, hvb, _, _, k, q.2, rfl, h3, r2, fun w H4 e4 r4 => ?_⟩
      have hB4 := hB.grow mo_RR e4
      obtain ⟨H3, g1, g2, g3⟩ := dt_put mo_RR hB4.tab (by omega) (mo_RT (.of e4) r1) r4
      refine ⟨_, rfl, _, rfl, D, H3, rfl, g1, _, _, _, _, rfl, ?_⟩
      rw [bump_some q.2 h2]
      exact ⟨hB4.step g2 g3, hI.tr ((Imm.of e4).tr (hB4.imm g2)), by have := len_put T' q.1 (k + q.2); omega⟩
  · obtain ⟨m0, m1, m2, m3, rfl, hB, hI, hT⟩ := h
    have hT1 : Dt (RR K) H1 D (addTable L) := hB.tab
    refine ⟨t0, fun Df hDf => ⟨_, _, rfl, rfl, _, rfl, by decide, by decide, ?_⟩⟩
    have nD : D ≠ Df := by
      obtain ⟨_, g, _⟩ := hT1
      exact ne_of_none g hDf
    refine for_range (lo := 0) (n := 9) (fun i σ H' => ∃ m0 m1 m3, σ = [some (.ref a), some (.ref D), m0, m1, some (.ref Df), m3] ∧ Bl (RQ K) H1 Df ((List.range i).flatMap fun d => (partsOf d).filterMap (keepOf (addTable L))) H' ∧ Dt (RR K) H' D (addTable L) ∧ ((List.range i).flatMap fun d => (partsOf d).filterMap (keepOf (addTable L))).length ≤ i * 1000) ⟨_, _, _, rfl, .new hDf, hT1.mo mo_RR (.nw hDf), by simp⟩ (fun i σ H2 hi hh => ?_) fun σ H2 hh => ?_
    · obtain ⟨m0, m1, m3, rfl, hF, hTD, hlen⟩ := hh
      have pl := partsOf_len i (by omega)
      refine ⟨_, rfl, Or.inl ⟨rfl, hF.sql⟩, _, rfl, i, lst1 (vint (by omega)), by omega, fun v H3 e3 hv => ?_⟩
      obtain ⟨t, us3, rfl, ht, hA⟩ := hv
      have hTD3 := hTD.mo mo_RR e3
      refine ⟨t, rfl, ⟨_, SqT.of ht⟩, fun Lc hLc => ?_⟩
      refine lc_seqT (R := RQ K) (SqT.of ht) hA (keepOf (addTable L)) mo_RT mo_RQ (by omega) (fun j p x H4 C N hj e4 hx c1 c2 => ?_) hLc (fun H4 acc e4 h4 hAc => ?_)
      · have hTD4 := hTD3.mo mo_RR e4
        obtain ⟨o, g, ho⟩ := dt_get hTD4 hx
        refine ⟨rfl, _, rfl, _, rfl, D, o, rfl, g, _, rfl, ?_⟩
        rcases ho with ⟨h1, h2⟩ | ⟨v, k, h1, h2, h3⟩
        · subst h1
          exact ifF rfl (iteF (c2 (keep_none h2) _ .rf))
        · subst h1
          obtain ⟨va, dx, rfl, hva⟩ := id h3
          refine ifT rfl ⟨_, rfl, _, rfl, D, _, rfl, g, va, dx, _, rfl, hva, rfl, _, k, rfl, h3, _, rfl, ?_⟩
          by_cases hk : k = 0
          · rw [decide_eq_true hk]
            exact iteF (c2 (by rw [keep_some h2, if_pos hk]) _ .rf)
          · rw [decide_eq_false hk]
            refine iteT ⟨_, rfl, _, rfl, _, rfl, D, _, rfl, g, t2, fun p5 hp5 => c1 _ _ _ (by rw [keep_some h2, if_neg hk]) (.nw hp5) ⟨p5, _, _, rfl, upd_same, mo_RT (.nw hp5) hx, mo_RR (.nw hp5) h3⟩⟩
      · have hF4 := hF.grow mo_RQ (e3.tr e4)
        have lf := len_fm (keepOf (addTable L)) (partsOf i) 1000 pl
        refine nil_of (ext_of mo_RQ hF4 h4 hAc (by omega) fun H5 b5 e5 => ?_)
        rw [← range_flat (fun d => (partsOf d).filterMap (keepOf (addTable L)))] at b5
        refine ⟨_, _, _, rfl, b5, ?_, ?_⟩
        · obtain ⟨kd, d1, d2⟩ := hTD3.mo mo_RR e4
          exact ⟨kd, e5 _ _ (fun z => nD (List.mem_singleton.mp z)) d1, d2.mo mo_RR (hF4.imm e5)⟩
        · rw [range_flat, List.length_append, Nat.add_mul, Nat.one_mul]
          omega
    · obtain ⟨m0, m1, m3, rfl, hF, hTD, hlen⟩ := hh
      obtain ⟨us5, h1, h2⟩ := hF.acc
      exact ⟨_, rfl, Df, us5, rfl, .inl ⟨SqL.of h1, fun l hl => hQ _ _ (hB.ex.ex.tr (hF.ex.tr (.nw hl))) ⟨l, us5, rfl, upd_same, h2.mo mo_RQ (.nw hl)⟩⟩⟩
theorem ok_added_parts_T (T : Tx K mg) : Cal P w K mg base 11 "added_parts" ["pairs"] [] (spAddedParts true K) := by
  obtain ⟨tmd, hmd⟩ := T.md
  have c_partitions := ok_partitions (P := P) (w := w) (base := base) T
  have c_is_zero := ok_Ratio_is_zero (P := P) (w := w) (base := base) T
  have c_add := ok_Ratio_add (P := P) (w := w) (base := base) T
  obtain ⟨fd, F⟩ := T.d 20 _ rfl
  have sc := sc_added_parts
  refine ⟨_, fd, [], FunD.ok (k := 10) F sc (fun vs H Q E h => by obtain ⟨_, _, _, rfl, _⟩ := h; rfl) (fun cdv A outer s H vs Q E hr h => ?_), T.g "added_parts" (by decide +kernel), F.kp, FunD.bindsN F (fun _ _ _ _ _ _ us hl => match us, hl with | [_], _ => rfl), .nil⟩
  refine ⟨_, PSs.nox ((pss_cons (ps_set (i := 1) sc.nd rfl (Or.inr rfl) pe_dnewT)
  (pss_cons (ps_for PassesOwn.never rfl (pi_tup (pv 0)) (pg_tup rfl (pgs_cons (pg_name (i := 2) sc.nd rfl (Or.inl rfl)) (pgs_cons (pg_name (i := 3) sc.nd rfl (Or.inl rfl)) pgs_nil)))
  (pss_one (ps_if (pt_cmp (pc_din (hu_of hr) (pv 2) (pv 1)))
  (pss_one (ps_dput (hu_of hr) (pv 1) (pv 2) (pe_op (op_addR c_add T.selfR hr (by decide)) (pe_dget (hu_of hr) (pv 1) (pv 2) (fun _ _ => rfl)) (pv 3)) rfl)) (pss_one (ps_dput (hu_of hr) (pv 1) (pv 2) (pv 3) rfl)))))
  (pss_cons (ps_set (i := 4) sc.nd rfl (Or.inl rfl) (pe_lst pa_nil))
  (pss_cons (ps_for PassesOwn.never rfl (pi_range1 rfl (T.f "range" (by decide +kernel)) (pa_cons (pe_op op_add (pe_glob (v := .int 8) rfl hmd ⟨_, rfl⟩) pe_int) pa_nil)) (pg_name (i := 5) sc.nd rfl (Or.inl rfl))
  (pss_one (ps_expr (pe_bm PySem.F.plainAttrs_list PySem.F.slot_list_extend PySem.F.type_list_extend mt_extend (pv 4) (pa_cons (pe_lc (own := [("part", 2)]) rfl sc.nd (pi_tup (pe_cg c_partitions (hr.mono (by decide)) (pa_cons (pv 5) pa_nil))) (blkOk_by (N := ["pairs", "table", "part", "c", "found", "d"]) (sc := defScope (top 48)) (by decide +kernel)) (fun _ _ _ _ _ => (pg_name (i := 2) sc.nd rfl (Or.inl rfl))) (fun _ _ _ _ _ => (pts_one (PW.pt (pw_and (pt_cmp (pc_din (hu_of hr) (pv 2) (pv 1))) (pw_and1 (pt_not (pt_val (pe_mg0 (pe_dget (hu_of hr) (pv 1) (pv 2) (fun _ _ => rfl)) T.cR c_is_zero (hr.mono (by decide)))))))))) (fun _ _ _ _ _ => (pe_tup (pa_cons (pv 2) (pa_cons (pe_dget (hu_of hr) (pv 1) (pv 2) (fun _ _ => rfl)) pa_nil))))) pa_nil)))))
  (pss_one (ps_ret (pe_callTy call_tuple_of (by rfl) (T.f "tuple" (by decide +kernel)) (by decide +kernel) (pa_cons (pv 4) pa_nil))))))))), ?_⟩
  obtain ⟨a, us, L, rfl, ha, hL, hl, hQ⟩ := h
  refine fun D hD => ?_
  have e0 : Ex H (upd H D (.dT [])) := .nw hD
  refine ⟨_, rfl, a, rfl, ⟨_, SqT.of (e0 _ _ ha)⟩, ?_⟩
  refine for_seqT (hL.mo mo_RQ (.of e0)) mo_RQ (fun T kv => bump T kv.1 kv.2) [] (fun i T' σ H1 => ∃ m0 m1 m2 m3, σ = [some (.ref a), some (.ref D), m0, m1, m2, m3] ∧ Bd (RR K) [] H D T' H1 ∧ Imm (upd H D (.dT [])) H1 ∧ T'.length ≤ i) ⟨none, none, none, none, rfl, .new hD, .rf, Nat.zero_le _⟩ (fun i T' σ H1 h => ?_) (fun i T' q x σ H1 hi hx h => ?_) fun σ H1 h => ?_
  · obtain ⟨m0, m1, m2, m3, rfl, hB, hI, _⟩ := h
    exact ⟨SqT.of (hB.ex.ex _ _ ha), hI⟩
  · obtain ⟨m0, m1, m2, m3, rfl, hB, hI, hT⟩ := h
    obtain ⟨t, x1, y1, rfl, ht, r1, r2⟩ := hx
    have hi2 := (List.getElem?_eq_some_iff.mp hi).1
    refine ⟨t, _, rfl, SqT.of ht, rfl, _, _, rfl, _, _, rfl, rfl, ?_⟩
    obtain ⟨o, g, ho⟩ := dt_get hB.tab r1
    refine ⟨_, rfl, _, rfl, D, o, rfl, g, _, rfl, ?_⟩
    rcases ho with ⟨h1, h2⟩ | ⟨v, k, h1, h2, h3⟩
    · subst h1
      refine ifF rfl ?_
      obtain ⟨H3, g1, g2, g3⟩ := dt_put mo_RR hB.tab (by omega) r1 r2
      refine ⟨_, rfl, _, rfl, _, rfl, D, H3, rfl, g1, _, _, _, _, rfl, ?_⟩
      rw [bump_none q.2 h2]
      exact ⟨hB.step g2 g3, hI.tr (hB.imm g2), by have := len_put T' q.1 q.2; omega⟩
    · subst h1
      refine ifT rfl ?_
      obtain ⟨va, dx, rfl, hva⟩ := id h3
      obtain ⟨vb, dy, rfl, hvb⟩ := id r2
      refine ⟨_, rfl, _, rfl, D, _, rfl, g, _, rfl, va, vb, dx, dy, _, _, rfl, rfl, hva, hvb, _, _, k, q.2, rfl, h3, r2, fun w H4 e4 r4 => ?_⟩
      have hB4 := hB.grow mo_RR e4
      obtain ⟨H3, g1, g2, g3⟩ := dt_put mo_RR hB4.tab (by omega) (mo_RT (.of e4) r1) r4
      refine ⟨_, rfl, _, rfl, D, H3, rfl, g1, _, _, _, _, rfl, ?_⟩
      rw [bump_some q.2 h2]
      exact ⟨hB4.step g2 g3, hI.tr ((Imm.of e4).tr (hB4.imm g2)), by have := len_put T' q.1 (k + q.2); omega⟩
  · obtain ⟨m0, m1, m2, m3, rfl, hB, hI, hT⟩ := h
    have hT1 : Dt (RR K) H1 D (addTable L) := hB.tab
    refine ⟨t0, fun Df hDf => ⟨_, _, rfl, rfl, _, rfl, by decide, by decide, ?_⟩⟩
    have nD : D ≠ Df := by
      obtain ⟨_, g, _⟩ := hT1
      exact ne_of_none g hDf
    refine for_range (lo := 0) (n := 9) (fun i σ H' => ∃ m0 m1 m3, σ = [some (.ref a), some (.ref D), m0, m1, some (.ref Df), m3] ∧ Bl (RQ K) H1 Df ((List.range i).flatMap fun d => (partsOf d).filterMap (keepOf (addTable L))) H' ∧ Dt (RR K) H' D (addTable L) ∧ ((List.range i).flatMap fun d => (partsOf d).filterMap (keepOf (addTable L))).length ≤ i * 1000) ⟨_, _, _, rfl, .new hDf, hT1.mo mo_RR (.nw hDf), by simp⟩ (fun i σ H2 hi hh => ?_) fun σ H2 hh => ?_
    · obtain ⟨m0, m1, m3, rfl, hF, hTD, hlen⟩ := hh
      have pl := partsOf_len i (by omega)
      refine ⟨_, rfl, Or.inl ⟨rfl, hF.sql⟩, _, rfl, i, lst1 (vint (by omega)), by omega, fun v H3 e3 hv => ?_⟩
      obtain ⟨t, us3, rfl, ht, hA⟩ := hv
      have hTD3 := hTD.mo mo_RR e3
      refine ⟨t, rfl, ⟨_, SqT.of ht⟩, fun Lc hLc => ?_⟩
      refine lc_seqT (R := RQ K) (SqT.of ht) hA (keepOf (addTable L)) mo_RT mo_RQ (by omega) (fun j p x H4 C N hj e4 hx c1 c2 => ?_) hLc (fun H4 acc e4 h4 hAc => ?_)
      · have hTD4 := hTD3.mo mo_RR e4
        obtain ⟨o, g, ho⟩ := dt_get hTD4 hx
        refine ⟨rfl, _, rfl, _, rfl, D, o, rfl, g, _, rfl, ?_⟩
        rcases ho with ⟨h1, h2⟩ | ⟨v, k, h1, h2, h3⟩
        · subst h1
          exact ifF rfl (iteF (c2 (keep_none h2) _ .rf))
        · subst h1
          obtain ⟨va, dx, rfl, hva⟩ := id h3
          refine ifT rfl ⟨_, rfl, _, rfl, D, _, rfl, g, va, dx, _, rfl, hva, rfl, _, k, rfl, h3, _, rfl, ?_⟩
          by_cases hk : k = 0
          · rw [decide_eq_true hk]
            exact iteF (c2 (by rw [keep_some h2, if_pos hk]) _ .rf)
          · rw [decide_eq_false hk]
            refine iteT ⟨_, rfl, _, rfl, _, rfl, D, _, rfl, g, t2, fun p5 hp5 => c1 _ _ _ (by rw [keep_some h2, if_neg hk]) (.nw hp5) ⟨p5, _, _, rfl, upd_same, mo_RT (.nw hp5) hx, mo_RR (.nw hp5) h3⟩⟩
      · have hF4 := hF.grow mo_RQ (e3.tr e4)
        have lf := len_fm (keepOf (addTable L)) (partsOf i) 1000 pl
        refine nil_of (ext_of mo_RQ hF4 h4 hAc (by omega) fun H5 b5 e5 => ?_)
        rw [← range_flat (fun d => (partsOf d).filterMap (keepOf (addTable L)))] at b5
        refine ⟨_, _, _, rfl, b5, ?_, ?_⟩
        · obtain ⟨kd, d1, d2⟩ := hTD3.mo mo_RR e4
          exact ⟨kd, e5 _ _ (fun z => nD (List.mem_singleton.mp z)) d1, d2.mo mo_RR (hF4.imm e5)⟩
        · rw [range_flat, List.length_append, Nat.add_mul, Nat.one_mul]
          omega
    · obtain ⟨m0, m1, m3, rfl, hF, hTD, hlen⟩ := hh
      obtain ⟨us5, h1, h2⟩ := hF.acc
      exact ⟨_, rfl, Df, us5, rfl, .inl ⟨SqL.of h1, fun l hl => hQ _ _ (hB.ex.ex.tr (hF.ex.tr (.nw hl))) ⟨l, us5, rfl, upd_same, h2.mo mo_RQ (.nw hl)⟩⟩⟩
end
end FB
namespace FB
open PySem PySem.Spec PyProof.Rows L2 SF FR
section
variable {P : Program} {w : World} {K : PySem.W.Frag} {mg : Str → Option Value} {base : Heap}
theorem ratio_made2 {H1 : Hp} {Q0 : VK} {x dx : Addr} {n d k : Int} (hx : H1 x = none) (hdx : H1 dx = none) (h1 : 0 < d) (h2 : d ≤ 4) (h3 : 2 * n = k * d) (q : ∀ H', Ex H1 H' → RR K H' (.ref x) k → Q0 .non H') :
    spRinit (He.ga K "Ratio") [.ref x, .int n, .int d] (upd (upd H1 dx (.own x)) x (.ins (He.ga K "Ratio") dx [])) Q0 E0 :=
  ⟨x, dx, n, d, k, rfl, upd_same, h1, h2, h3, fun H' e h => q _ (mk_ex hx hdx e) ⟨x, dx, rfl, h⟩⟩
def meanOk (b : SF.B) (p : Pt) : Bool := (decide (0 ≤ p.sum) && decide (p.sum ≤ 4)) && ((partsOf p.sum.toNat).all fun μ => coefOk b p μ && (decide (-1000 < coefIn b p μ) && decide (coefIn b p μ < 1000)))
def spMeaning (K : PySem.W.Frag) : Sp := fun vs H Q _ => ∃ (b : SF.B) (a : Addr) (us : List V) (M : Tb), vs = [.str (bstr b), .ref a] ∧ H a = some (.tup us) ∧ All (RQ K) H us M ∧ M.length ≤ 40 ∧ (b ≠ .m → ∀ q ∈ M, meanOk b q.1 = true) ∧ ∀ v H', Ex H H' → RTs (RQ K) H' v (meaning b M) → Q v H'
theorem fold_flat {α β : Type} (F : α → List β) : ∀ (xs : List α) (s : List β), xs.foldl (fun s x => s ++ F x) s = s ++ xs.flatMap F
  | [], s => by simp
  | x :: xs, s => by rw [List.foldl_cons, fold_flat F xs, List.flatMap_cons, List.append_assoc]
theorem sc_meaning_terms : FnScope ["base", "terms", "pairs", "part", "c", "exponent"] ["base", "terms"] (defScope (top 51)) := ⟨rfl, rfl, rfl, by decide +kernel, rfl, by decide +kernel, by decide +kernel⟩
theorem ok_meaning_terms (T : Tx K mg) : Cal P w K mg base 14 "meaning_terms" ["base", "terms"] [] (spMeaning K) := by
  have c_mul := ok_Ratio_mul (P := P) (w := w) (base := base) T
  have c_Ratio := ok_Ratio_init1 (P := P) (w := w) (base := base) T
  have c_partitions := ok_partitions (P := P) (w := w) (base := base) T
  have c_size := ok_size (P := P) (w := w) (base := base) T
  have c_coefficient_in := ok_coefficient_in (P := P) (w := w) (base := base) T
  have c_added_parts := ok_added_parts (P := P) (w := w) (base := base) T
  have c_added_parts_T := ok_added_parts_T (P := P) (w := w) (base := base) T
  obtain ⟨fd, F⟩ := T.d 21 _ rfl
  have sc := sc_meaning_terms
  refine ⟨_, fd, [], FunD.ok (k := 13) F sc (fun vs H Q E h => by obtain ⟨_, _, _, _, rfl, _⟩ := h; rfl) (fun cdv A outer s H vs Q E hr h => ?_), T.g "meaning_terms" (by decide +kernel), F.kp, FunD.bindsN F (fun _ _ _ _ _ _ us hl => match us, hl with | [_, _], _ => rfl), .nil⟩
  refine ⟨_, PSs.nox ((pss_cons (ps_if (pt_cmpR op_eq (pv 0) pe_str (nomark _))
  (pss_one (ps_ret (pe_cg c_added_parts_T (hr.mono (by decide)) (pa_cons (pv 1) pa_nil)))) pss_nil)
  (pss_cons (ps_set (i := 2) sc.nd rfl (Or.inl rfl) (pe_lst pa_nil))
  (pss_cons (ps_for PassesOwn.never rfl (pi_tup (pv 1)) (pg_tup rfl (pgs_cons (pg_name (i := 3) sc.nd rfl (Or.inl rfl)) (pgs_cons (pg_name (i := 4) sc.nd rfl (Or.inl rfl)) pgs_nil)))
  (pss_one (ps_for PassesOwn.never rfl (pi_tup (pe_cg c_partitions (hr.mono (by decide)) (pa_cons (pe_cg c_size (hr.mono (by decide)) (pa_cons (pv 3) pa_nil)) pa_nil))) (pg_name (i := 5) sc.nd rfl (Or.inl rfl))
  (pss_one (ps_expr (pe_bm PySem.F.plainAttrs_list PySem.F.slot_list_append PySem.F.type_list_append mt_append (pv 2) (pa_cons (pe_tup (pa_cons (pv 5) (pa_cons (pe_op (op_addR c_mul T.selfR hr (by decide)) (pv 4) (pe_mk c_Ratio (hr.mono (by decide)) (pa_cons (pe_cg c_coefficient_in (hr.mono (by decide)) (pa_cons (pv 0) (pa_cons (pv 3) (pa_cons (pv 5) pa_nil)))) pa_nil))) pa_nil))) pa_nil)))))))
  (pss_one (ps_ret (pe_cg c_added_parts (hr.mono (by decide)) (pa_cons (pv 2) pa_nil)))))))), ?_⟩
  obtain ⟨b, a, us, M, rfl, ha, hM, hl, hok, hQ⟩ := h
  refine ⟨_, rfl, rfl, _, rfl, ?_⟩
  show if decide (V.str (bstr b) = V.str "m") = true then _ else _
  rw [str_m]
  by_cases bm : b = .m
  · have ec : meaning b M = addedParts M := by unfold meaning; rw [if_pos bm]
    rw [ec] at hQ
    exact ifT (decide_eq_true bm) ⟨_, rfl, a, us, M, rfl, ha, hM, by omega, hQ⟩
  have hok := hok bm
  have ec : meaning b M = addedParts (M.flatMap fun kv => (partsOf kv.1.sum.toNat).map fun μ => (μ, kv.2 * coefIn b kv.1 μ)) := by unfold meaning; rw [if_neg bm]
  rw [ec] at hQ
  refine ifF (decide_eq_false bm) ⟨t0, fun D hD => ?_⟩
  have e0 : Ex H (upd H D (.lst [])) := .nw hD
  refine ⟨_, rfl, a, rfl, ⟨_, SqT.of (e0 _ _ ha)⟩, ?_⟩
  refine for_seqT (hM.mo mo_RQ (.of e0)) mo_RQ (fun s kv => s ++ (partsOf kv.1.sum.toNat).map fun μ => (μ, kv.2 * coefIn b kv.1 μ)) [] (fun i s σ H1 => ∃ m3 m4 m5, σ = [some (.str (bstr b)), some (.ref a), some (.ref D), m3, m4, m5] ∧ Bl (RQ K) H D s H1 ∧ Imm (upd H D (.lst [])) H1 ∧ s.length ≤ i * 1000) ⟨none, none, none, rfl, .new hD, .rf, Nat.zero_le _⟩ (fun i s σ H1 h => ?_) (fun i s q x σ H1 hi hx h => ?_) fun σ H1 h => ?_
  · obtain ⟨m3, m4, m5, rfl, hB, hI, _⟩ := h
    exact ⟨SqT.of (hB.ex _ _ ha), hI⟩
  · obtain ⟨m3, m4, m5, rfl, hB, hI, hs⟩ := h
    obtain ⟨t, x1, y1, rfl, ht, r1, r2⟩ := hx
    have hi2 := (List.getElem?_eq_some_iff.mp hi).1
    have mk := hok q (List.mem_of_getElem? hi)
    obtain ⟨mk1, mk2⟩ := He.ba mk
    obtain ⟨mk0, mk1⟩ := He.ba mk1
    have s0 := of_decide_eq_true mk0
    have s4 := of_decide_eq_true mk1
    have pl := partsOf_len q.1.sum.toNat (by omega)
    refine ⟨t, _, rfl, SqT.of ht, rfl, _, _, rfl, _, _, rfl, rfl, ?_⟩
    refine ⟨_, rfl, x1, q.1, rfl, r1, q.1.sum.toNat, lst1 (vint (by omega)), by omega, fun v H3 e3 hv => ?_⟩
    obtain ⟨tp, us3, rfl, htp, hA⟩ := hv
    have B3 := hB.grow mo_RQ e3
    have nD : tp ≠ D := fun z => by
      obtain ⟨_, g, _⟩ := B3.acc
      rw [z, g] at htp
      cases htp
    refine ⟨tp, rfl, ⟨_, SqT.of htp⟩, ?_⟩
    refine for_seqT hA mo_RT (fun s μ => s ++ [(μ, q.2 * coefIn b q.1 μ)]) s (fun j s' σ H4 => ∃ m5, σ = [some (.str (bstr b)), some (.ref a), some (.ref D), some x1, some y1, m5] ∧ Bl (RQ K) H D s' H4 ∧ ExS [D] H3 H4 ∧ s'.length ≤ i * 1000 + j) ⟨m5, rfl, B3, .rf, hs⟩ (fun j s' σ H4 h => ?_) (fun j s' μ x5 σ H4 hj hx5 h => ?_) fun σ H4 h => ?_
    · obtain ⟨m5, rfl, hB4, hE, _⟩ := h
      exact ⟨SqT.of (hE tp _ (fun z => nD (List.mem_singleton.mp z)) htp), B3.imm hE⟩
    · obtain ⟨m5, rfl, hB4, hE, hs'⟩ := h
      have hj2 := (List.getElem?_eq_some_iff.mp hj).1
      obtain ⟨ck1, ck2⟩ := He.ba (List.all_eq_true.mp mk2 μ (List.mem_of_getElem? hj))
      obtain ⟨cl, cu⟩ := He.ba ck2
      have cl := of_decide_eq_true cl
      have cu := of_decide_eq_true cu
      have im4 : Imm H1 H4 := (Imm.of e3).tr (B3.imm hE)
      refine ⟨_, rfl, Or.inl ⟨rfl, hB4.sql⟩, _, rfl, _, rfl, _, rfl, _, rfl, _, rfl, b, x1, x5, q.1, μ, rfl, mo_RT im4 r1, hx5, ck1, fun H5 e5 => fun x dx hx hdx hne => ?_⟩
      refine ratio_made2 (n := coefIn b q.1 μ) (d := 1) (k := 2 * coefIn b q.1 μ) hx hdx (by decide) (by decide) (by omega) fun H6 e6 r6 => ⟨rfl, ?_⟩
      have im6 : Imm H1 H6 := im4.tr (.of (e5.tr e6))
      have r2' := mo_RR im6 r2
      obtain ⟨va, dxa, rfl, hva⟩ := id r2'
      obtain ⟨vb, dxb, evb, hvb⟩ := id r6
      cases evb
      refine ⟨va, x, dxa, dxb, _, _, rfl, rfl, hva, hvb, _, _, q.2, 2 * coefIn b q.1 μ, rfl, r2', r6, by omega, by omega, by omega, fun w2 H7 e7 r7 => ?_⟩
      have ek : q.2 * (2 * coefIn b q.1 μ / 2) = q.2 * coefIn b q.1 μ := by rw [Int.mul_ediv_cancel_left _ (by decide)]
      rw [ek] at r7
      refine ⟨t2, fun pt hpt => nil_of (app_of mo_RQ (hB4.grow mo_RQ (e5.tr (e6.tr (e7.tr (.nw hpt))))) ⟨pt, _, _, rfl, upd_same, mo_RT ((Imm.of (e5.tr (e6.tr e7))).tr (.nw hpt)) hx5, mo_RR (.nw hpt) r7⟩ (by omega) fun H8 b8 e8 => ⟨_, rfl, b8, (hE.tr (e5.tr (e6.tr (e7.tr (.nw hpt))))).trS e8, by rw [List.length_append]; show _ + 1 ≤ _; omega⟩)⟩
    · obtain ⟨m5, rfl, hB4, hE, hs'⟩ := h
      rw [foldl_snoc (fun μ => (μ, q.2 * coefIn b q.1 μ))] at hB4 hs'
      exact ⟨_, _, _, rfl, hB4, hI.tr ((Imm.of e3).tr (B3.imm hE)), by omega⟩
  · obtain ⟨m3, m4, m5, rfl, hB, hI, hs⟩ := h
    rw [fold_flat, List.nil_append] at hB hs
    obtain ⟨us', h1, h2⟩ := hB.acc
    exact ⟨_, rfl, D, us', _, rfl, h1, h2, by omega, fun v H' e hv => hQ v H' (hB.ex.tr e) hv⟩
theorem keys_put {α : Type} (T : List (Pt × α)) (k : Pt) (v : α) : (SF.put T k v).map (·.1) = if k ∈ T.map (·.1) then T.map (·.1) else T.map (·.1) ++ [k] := by
  unfold SF.put
  by_cases h : k ∈ T.map (·.1)
  · rw [if_pos h, if_pos (by
      obtain ⟨q, h1, h2⟩ := List.mem_map.mp h
      exact List.any_eq_true.mpr ⟨q, h1, by simpa using h2⟩), List.map_map]
    apply List.map_congr_left
    intro q _
    show (if q.1 = k then (q.1, v) else q).1 = q.1
    split <;> rfl
  · rw [if_neg h, if_neg (fun z => by
      obtain ⟨q, h1, h2⟩ := List.any_eq_true.mp z
      exact h (List.mem_map.mpr ⟨q, h1, of_decide_eq_true h2⟩)), List.map_append]
    rfl
theorem nodup_put {α : Type} {T : List (Pt × α)} (k : Pt) (v : α) (h : (T.map (·.1)).Nodup) : ((SF.put T k v).map (·.1)).Nodup := by
  rw [keys_put]
  split
  · exact h
  · rename_i hk
    exact List.nodup_append.mpr ⟨h, List.nodup_cons.mpr ⟨(fun z => nomatch z), List.nodup_nil⟩, fun a ha b hb e => hk (by rw [← List.mem_singleton.mp hb, ← e]; exact ha)⟩
theorem mem_put {α : Type} {T : List (Pt × α)} {k : Pt} {v : α} {x : Pt} (h : x ∈ (SF.put T k v).map (·.1)) : x ∈ T.map (·.1) ∨ x = k := by
  rw [keys_put] at h
  split at h
  · exact .inl h
  · rcases List.mem_append.mp h with h | h
    · exact .inl h
    · exact .inr (List.mem_singleton.mp h)
theorem addT_keys : ∀ (L T : Tb), (T.map (·.1)).Nodup → ((L.foldl (fun T kv => bump T kv.1 kv.2) T).map (·.1)).Nodup ∧ ∀ x ∈ (L.foldl (fun T kv => bump T kv.1 kv.2) T).map (·.1), x ∈ T.map (·.1) ∨ x ∈ L.map (·.1)
  | [], T, h => ⟨h, fun x hx => .inl hx⟩
  | q :: L, T, h => by
    obtain ⟨h1, h2⟩ := addT_keys L (bump T q.1 q.2) (nodup_put _ _ h)
    refine ⟨h1, fun x hx => ?_⟩
    rcases h2 x hx with h3 | h3
    · rcases mem_put h3 with h4 | h4
      · exact .inl h4
      · exact .inr (by rw [h4]; exact List.mem_cons_self ..)
    · exact .inr (List.mem_cons_of_mem _ h3)
theorem addTable_nodup (L : Tb) : ((addTable L).map (·.1)).Nodup := (addT_keys L [] List.nodup_nil).1
theorem addTable_sub (L : Tb) : ∀ x ∈ (addTable L).map (·.1), x ∈ L.map (·.1) := fun x hx => ((addT_keys L [] List.nodup_nil).2 x hx).resolve_left (fun z => nomatch z)
theorem get_of_mem {α : Type} {T : List (Pt × α)} (nd : (T.map (·.1)).Nodup) {k : Pt} (h : k ∈ T.map (·.1)) : ∃ v, SF.get T k = some v ∧ (k, v) ∈ T := by
  obtain ⟨q, h1, h2⟩ := List.mem_map.mp h
  subst h2
  exact ⟨q.2, get_mem nd h1, h1⟩
def oneKey (L : Tb) : Prop := (∀ q ∈ L, q.1 ≠ []) ∨ (∀ q ∈ L, q.1 = [])
theorem oneKey_ok {L : Tb} (h : oneKey L) : (addTable L).length ≤ 1 ∨ ∀ k ∈ (addTable L).map (·.1), k ≠ [] := by
  rcases h with h | h
  · refine .inr fun k hk => ?_
    obtain ⟨q, h1, h2⟩ := List.mem_map.mp (addTable_sub L k hk)
    rw [← h2]
    exact h q h1
  · refine .inl ?_
    have nd := addTable_nodup L
    have al : ∀ k ∈ (addTable L).map (·.1), k = [] := fun k hk => by
      obtain ⟨q, h1, h2⟩ := List.mem_map.mp (addTable_sub L k hk)
      rw [← h2]
      exact h q h1
    cases e : addTable L with
    | nil => exact Nat.zero_le _
    | cons a r =>
      cases r with
      | nil => exact Nat.le_refl _
      | cons b r =>
        rw [e] at nd al
        have h1 := al a.1 (by simp)
        have h2 := al b.1 (by simp)
        rw [List.map_cons, List.map_cons, h1, h2] at nd
        exact absurd (List.mem_cons_self ..) (List.nodup_cons.mp nd).1
def spAddedTerms (K : PySem.W.Frag) : Sp := fun vs H Q _ => ∃ (a : Addr) (us : List V) (L : Tb), vs = [.ref a] ∧ H a = some (.lst us) ∧ All (RQ K) H us L ∧ L.length ≤ 50000 ∧ oneKey L ∧ ∀ v H', Ex H H' → RTs (RQ K) H' v (addedTerms L) → Q v H'
theorem bumps_len : ∀ (L T : Tb), (L.foldl (fun T kv => bump T kv.1 kv.2) T).length ≤ T.length + L.length
  | [], T => by simp
  | q :: L, T => by
    have h1 := bumps_len L (bump T q.1 q.2)
    have h2 := bump_len T q.1 q.2
    rw [List.foldl_cons, List.length_cons]
    omega
theorem sc_added_terms : FnScope ["pairs", "table", "exponent", "c", "known"] ["pairs"] (defScope (top 33)) := ⟨rfl, rfl, rfl, by decide +kernel, rfl, by decide +kernel, by decide +kernel⟩
theorem ok_added_terms (T : Tx K mg) : Cal P w K mg base 4 "added_terms" ["pairs"] [] (spAddedTerms K) := by
  have c_is_zero := ok_Ratio_is_zero (P := P) (w := w) (base := base) T
  have c_add := ok_Ratio_add (P := P) (w := w) (base := base) T
  obtain ⟨fd, F⟩ := T.d 14 _ rfl
  have sc := sc_added_terms
  refine ⟨_, fd, [], FunD.ok (k := 3) F sc (fun vs H Q E h => by obtain ⟨_, _, _, rfl, _⟩ := h; rfl) (fun cdv A outer s H vs Q E hr h => ?_), T.g "added_terms" (by decide +kernel), F.kp, FunD.bindsN F (fun _ _ _ _ _ _ us hl => match us, hl with | [_], _ => rfl), .nil⟩
  refine ⟨_, PSs.nox ((pss_cons (ps_set (i := 1) sc.nd rfl (Or.inr rfl) pe_dnewT)
  (pss_cons (ps_for PassesOwn.never rfl (pi_list (pv 0)) (pg_tup rfl (pgs_cons (pg_name (i := 2) sc.nd rfl (Or.inl rfl)) (pgs_cons (pg_name (i := 3) sc.nd rfl (Or.inl rfl)) pgs_nil)))
  (pss_one (ps_if (pt_cmp (pc_din (hu_of hr) (pv 2) (pv 1)))
  (pss_one (ps_dput (hu_of hr) (pv 1) (pv 2) (pe_op (op_addR c_add T.selfR hr (by decide)) (pe_dget (hu_of hr) (pv 1) (pv 2) (fun _ _ => rfl)) (pv 3)) rfl)) (pss_one (ps_dput (hu_of hr) (pv 1) (pv 2) (pv 3) rfl)))))
  (pss_cons (ps_set (i := 4) sc.nd rfl (Or.inl rfl) (pe_callBK (cr_sortedDR (b := true) rfl (hr.mono (by decide))) (by rfl) (T.f "sorted" (by decide +kernel)) (by decide +kernel) (pa_cons (pv 1) pa_nil) (pk_cons pe_bl pk_nil)))
  (pss_one (ps_ret (pe_callTy call_tuple_of (by rfl) (T.f "tuple" (by decide +kernel)) (by decide +kernel) (pa_cons (pe_lc (own := [("exponent", 2)]) rfl sc.nd (pi_list (pv 4)) (blkOk_by (N := ["pairs", "table", "exponent", "c", "known"]) (sc := defScope (top 33)) (by decide +kernel)) (fun _ _ _ _ _ => (pg_name (i := 2) sc.nd rfl (Or.inl rfl))) (fun _ _ _ _ _ => (pts_one (pt_not (pt_val (pe_mg0 (pe_dget (hu_of hr) (pv 1) (pv 2) (fun _ _ => rfl)) T.cR c_is_zero (hr.mono (by decide))))))) (fun _ _ _ _ _ => (pe_tup (pa_cons (pv 2) (pa_cons (pe_dget (hu_of hr) (pv 1) (pv 2) (fun _ _ => rfl)) pa_nil))))) pa_nil)))))))), ?_⟩
  obtain ⟨a, us, L, rfl, ha, hL, hl, hone, hQ⟩ := h
  refine fun D hD => ?_
  have e0 : Ex H (upd H D (.dT [])) := .nw hD
  refine ⟨_, rfl, a, rfl, ⟨_, SqL.of (e0 _ _ ha)⟩, ?_⟩
  refine for_seqL (hL.mo mo_RQ (.of e0)) mo_RQ (fun T kv => bump T kv.1 kv.2) [] (fun i T' σ H1 => ∃ m0 m1 m2, σ = [some (.ref a), some (.ref D), m0, m1, m2] ∧ Bd (RR K) [] H D T' H1 ∧ Imm (upd H D (.dT [])) H1 ∧ T'.length ≤ i) ⟨none, none, none, rfl, .new hD, .rf, Nat.zero_le _⟩ (fun i T' σ H1 h => ?_) (fun i T' q x σ H1 hi hx h => ?_) fun σ H1 h => ?_
  · obtain ⟨m0, m1, m2, rfl, hB, hI, _⟩ := h
    exact ⟨SqL.of (hB.ex.ex _ _ ha), hI⟩
  · obtain ⟨m0, m1, m2, rfl, hB, hI, hT⟩ := h
    obtain ⟨t, x1, y1, rfl, ht, r1, r2⟩ := hx
    have hi2 := (List.getElem?_eq_some_iff.mp hi).1
    refine ⟨t, _, rfl, SqT.of ht, rfl, _, _, rfl, _, _, rfl, rfl, ?_⟩
    obtain ⟨o, g, ho⟩ := dt_get hB.tab r1
    refine ⟨_, rfl, _, rfl, D, o, rfl, g, _, rfl, ?_⟩
    rcases ho with ⟨h1, h2⟩ | ⟨v, k, h1, h2, h3⟩
    · subst h1
      refine ifF rfl ?_
      obtain ⟨H3, g1, g2, g3⟩ := dt_put mo_RR hB.tab (by omega) r1 r2
      refine ⟨_, rfl, _, rfl, _, rfl, D, H3, rfl, g1, _, _, _, rfl, ?_⟩
      rw [bump_none q.2 h2]
      exact ⟨hB.step g2 g3, hI.tr (hB.imm g2), by have := len_put T' q.1 q.2; omega⟩
    · subst h1
      refine ifT rfl ?_
      obtain ⟨va, dx, rfl, hva⟩ := id h3
      obtain ⟨vb, dy, rfl, hvb⟩ := id r2
      refine ⟨_, rfl, _, rfl, D, _, rfl, g, _, rfl, va, vb, dx, dy, _, _, rfl, rfl, hva, hvb, _, _, k, q.2, rfl, h3, r2, fun w H4 e4 r4 => ?_⟩
      have hB4 := hB.grow mo_RR e4
      obtain ⟨H3, g1, g2, g3⟩ := dt_put mo_RR hB4.tab (by omega) (mo_RT (.of e4) r1) r4
      refine ⟨_, rfl, _, rfl, D, H3, rfl, g1, _, _, _, rfl, ?_⟩
      rw [bump_some q.2 h2]
      exact ⟨hB4.step g2 g3, hI.tr ((Imm.of e4).tr (hB4.imm g2)), by have := len_put T' q.1 (k + q.2); omega⟩
  · obtain ⟨m0, m1, m2, rfl, hB, hI, hT⟩ := h
    have hT1 : Dt (RR K) H1 D (addTable L) := hB.tab
    refine ⟨_, rfl, rfl, sort_dict hT1 (by have := bumps_len L []; show (addTable L).length ≤ _; unfold addTable; simp at this; omega) (oneKey_ok hone) fun l us2 hl2 hA => ?_⟩
    have hT2 := hT1.mo mo_RR (Ex.nw (o := HO.lst us2) hl2)
    refine ⟨_, rfl, l, rfl, ⟨_, SqL.of upd_same⟩, fun Lc hLc => ?_⟩
    refine lc_seqL (R := RQ K) (SqL.of upd_same) hA (keepOf (addTable L)) mo_RT mo_RQ (by rw [(sortT_perm _ _).length_eq, List.length_map]; have := bumps_len L []; unfold addTable; simp at this; omega) (fun j p x H4 C N hj e4 hx c1 c2 => ?_) hLc (fun H4 acc e4 h4 hAc => ?_)
    · have hp : p ∈ (addTable L).map (·.1) := (sortT_perm _ _).mem_iff.mp (List.mem_of_getElem? hj)
      obtain ⟨k, gk, _⟩ := get_of_mem (addTable_nodup L) hp
      obtain ⟨o, g, ho⟩ := dt_get (hT2.mo mo_RR e4) hx
      rcases ho with ⟨_, h2⟩ | ⟨v, k', h1, h2, h3⟩
      · rw [gk] at h2; cases h2
      rw [gk] at h2
      cases h2
      subst h1
      obtain ⟨va, dx, rfl, hva⟩ := id h3
      refine ⟨rfl, _, rfl, _, rfl, D, _, rfl, g, va, dx, _, rfl, hva, rfl, _, k, rfl, h3, _, rfl, ?_⟩
      by_cases hk : k = 0
      · rw [decide_eq_true hk]
        exact iteF (c2 (by rw [keep_some gk, if_pos hk]) _ .rf)
      · rw [decide_eq_false hk]
        exact iteT ⟨_, rfl, _, rfl, _, rfl, D, _, rfl, g, t2, fun p5 hp5 => c1 _ _ _ (by rw [keep_some gk, if_neg hk]) (.nw hp5) ⟨p5, _, _, rfl, upd_same, mo_RT (.nw hp5) hx, mo_RR (.nw hp5) h3⟩⟩
    · exact ⟨Lc, _, rfl, .inl ⟨SqL.of h4, fun l5 hl5 => hQ _ _ (hB.ex.ex.tr ((Ex.nw hl2).tr (e4.tr (.nw hl5)))) ⟨l5, _, rfl, upd_same, hAc.mo mo_RQ (.nw hl5)⟩⟩⟩
end
end FB
namespace FB
open PySem PySem.Spec PyProof.Rows L2 SF FR
section
variable {P : Program} {w : World} {K : PySem.W.Frag} {mg : Str → Option Value} {base : Heap}
def RLt (K : PySem.W.Frag) : Rv (Int × Tb) := fun H v q => ∃ a dx t, v = .ref a ∧ H a = some (.ins (CL K) dx [("n", .int q.1), ("terms", t)]) ∧ RTs (RQ K) H t q.2
def RSy (K : PySem.W.Frag) : Rv (SF.B × Tb) := fun H v q => ∃ a dx t, v = .ref a ∧ H a = some (.ins (CS K) dx [("base", .str (bstr q.1)), ("terms", t)]) ∧ RTs (RQ K) H t q.2
theorem mo_RLt : Mo (RLt K) := fun e => fun ⟨a, dx, t, h1, h2, h3⟩ => ⟨a, dx, t, h1, e.ins _ _ _ _ h2, mo_RTs mo_RQ e h3⟩
theorem mo_RSy : Mo (RSy K) := fun e => fun ⟨a, dx, t, h1, h2, h3⟩ => ⟨a, dx, t, h1, e.ins _ _ _ _ h2, mo_RTs mo_RQ e h3⟩
theorem upd_none2 {H : Hp} {x dx : Addr} {o : HO} (hx : H x = none) (hne : dx ≠ x) : upd H dx o x = none := by
  rw [upd_ne (Ne.symm hne)]
  exact hx
/-- an instance that is not yet whole may change -/
theorem rq_upd {H : Hp} {x C dx : Addr} {fs : List (Str × V)} {o : HO} (hx : H x = some (.ins C dx fs)) (hf : fs.length < 2) {v : V} {q : Pt × Int} (h : RQ K H v q) : RQ K (upd H x o) v q := by
  obtain ⟨t, x1, y1, rfl, ht, ⟨tt, rfl, htt⟩, ⟨a, da, rfl, ha⟩⟩ := h
  have tup : ∀ {p : Addr} {us : List V}, H p = some (.tup us) → upd H x o p = some (.tup us) := fun {p us} hp => by
    rw [upd_ne (fun e => by rw [e, hx] at hp; cases hp)]
    exact hp
  refine ⟨t, _, _, rfl, tup ht, ⟨tt, rfl, tup htt⟩, ⟨a, da, rfl, ?_⟩⟩
  rw [upd_ne (fun e => by
    rw [e, hx] at ha
    cases ha
    exact absurd hf (by show ¬ 2 < 2; omega))]
  exact ha
theorem rts_upd {H : Hp} {x C dx : Addr} {fs : List (Str × V)} {o : HO} (hx : H x = some (.ins C dx fs)) (hf : fs.length < 2) {v : V} {M : Tb} (h : RTs (RQ K) H v M) : RTs (RQ K) (upd H x o) v M := by
  obtain ⟨t, us, rfl, ht, hA⟩ := h
  refine ⟨t, us, rfl, ?_, Paired.mapP hA fun _ _ r => rq_upd hx hf r⟩
  rw [upd_ne (fun e => by rw [e, hx] at ht; cases ht)]
  exact ht
def spLinit (K : PySem.W.Frag) : Sp := fun vs H Q _ => ∃ (x dx : Addr) (n : Nat) (a : Addr) (us : List V) (L : Tb), vs = [.ref x, .int (n : Int), .ref a] ∧ H x = some (.ins (CL K) dx []) ∧ H a = some (.lst us) ∧ All (RQ K) H us L ∧ n ≤ 8 ∧ (∀ q ∈ L, q.1.length = n ∧ ∀ y ∈ q.1, 0 ≤ y) ∧ L.length ≤ 50000 ∧ oneKey L ∧
  ∀ H', ExS [x] H H' → RLt K H' (.ref x) ((n : Int), addedTerms L) → Q .non H'
theorem kit_lt {r : Bool} {a : String} (h1 : kitB a "list" = some (decide (a = "list"))) (h2 : kitB a "tuple" = some (decide (a = "tuple"))) : PySem.W.kitAny K (.type a) [.type "list", .type "tuple"] = some (decide (a = "list") || decide (a = "tuple")) := by
  refine kitAny_cons (b := decide (a = "list")) (kit_ty h1) (fun e => ?_) (fun e => by rw [e]; rfl)
  rw [e, Bool.false_or]
  exact kitAny_cons (b := decide (a = "tuple")) (kit_ty h2) (fun e2 => by rw [e2]; exact kitAny_nil) (fun e2 => e2)
theorem kit_list : PySem.W.kitAny K (.type "list") [.type "list", .type "tuple"] = some true := kit_lt (r := true) (by decide +kernel) (by decide +kernel)
theorem kit_tup : PySem.W.kitAny K (.type "tuple") [.type "list", .type "tuple"] = some true := kit_lt (r := true) (by decide +kernel) (by decide +kernel)
theorem all_id {α : Type} (L : List α) : L.map (fun x => x) = L := by simp
theorem sc_Letters_init : FnScope ["self", "n", "pairs", "found", "pair"] ["self", "n", "pairs"] (defScope (inClass (top 38) 0)) := ⟨rfl, rfl, rfl, by decide +kernel, rfl, by decide +kernel, by decide +kernel⟩
theorem ok_Letters_init (T : Tx K mg) : CalI P w K mg base 5 "Letters" ["self", "n", "pairs"] [] (spLinit K) := by
  have c_check_letters := ok_check_letters (P := P) (w := w) (base := base) T
  have c_is_exponent := ok_is_exponent (P := P) (w := w) (base := base) T
  have c_as_ratio := ok_as_ratio (P := P) (w := w) (base := base) T
  have c_added_terms := ok_added_terms (P := P) (w := w) (base := base) T
  obtain ⟨fd, F⟩ := T.d 52 _ rfl
  have sc := sc_Letters_init
  refine ⟨_, fd, [], FunD.ok (k := 4) F sc (fun vs H Q E h => by obtain ⟨_, _, _, _, _, _, rfl, _⟩ := h; rfl) (fun cdv A outer s H vs Q E hr h => ?_), T.g "Letters" (by decide +kernel), He.mkr_ok (T.a 7 (.mkr "Letters") rfl), FunD.bindsN F (fun _ _ _ _ _ _ us hl => match us, hl with | [_, _, _], _ => rfl), .nil⟩
  refine ⟨_, PSs.nox ((pss_cons (ps_expr (pe_cg c_check_letters (hr.mono (by decide)) (pa_cons (pv 1) pa_nil)))
  (pss_cons (ps_if (pt_not (pt_val (pe_callB call_isiT (by rfl) (T.f "isinstance" (by decide +kernel)) (by decide +kernel) (pa_cons (pv 2) (pa_cons (pe_tup (pa_cons (pe_ty (n := "list") (T.f "list" (by decide +kernel))) (pa_cons (pe_ty (n := "tuple") (T.f "tuple" (by decide +kernel))) pa_nil))) pa_nil)))))
  (pss_one ps_never) pss_nil)
  (pss_cons (ps_set (i := 3) sc.nd rfl (Or.inl rfl) (pe_lst pa_nil))
  (pss_cons (ps_for PassesOwn.never rfl (pi_list (pv 2)) (pg_name (i := 4) sc.nd rfl (Or.inl rfl))
  (pss_cons (ps_if (PW.pt (pw_or (pt_not (pt_val (pe_callB call_isi (by rfl) (T.f "isinstance" (by decide +kernel)) (by decide +kernel) (pa_cons (pv 4) (pa_cons (pe_ty (n := "tuple") (T.f "tuple" (by decide +kernel))) pa_nil))))) (pw_or (pt_cmpR op_ne (pe_callB call_len_seq (by rfl) (T.f "len" (by decide +kernel)) (by decide +kernel) (pa_cons (pv 4) pa_nil)) pe_int (nomark _)) (pw_or1 (pt_not (pt_val (pe_cg c_is_exponent (hr.mono (by decide)) (pa_cons (pv 1) (pa_cons (pe_ix ix_tup (pv 4) pe_int (fun _ _ => rfl)) pa_nil)))))))))
  (pss_one ps_never) pss_nil)
  (pss_one (ps_expr (pe_bm PySem.F.plainAttrs_list PySem.F.slot_list_append PySem.F.type_list_append mt_append (pv 3) (pa_cons (pe_tup (pa_cons (pe_ix ix_tup (pv 4) pe_int (fun _ _ => rfl)) (pa_cons (pe_cg c_as_ratio (hr.mono (by decide)) (pa_cons (pe_ix ix_tup (pv 4) pe_int (fun _ _ => rfl)) pa_nil)) pa_nil))) pa_nil))))))
  (pss_cons (ps_fld (pv 0) (pv 1) rfl)
  (pss_one (ps_fld (pv 0) (pe_cg c_added_terms (hr.mono (by decide)) (pa_cons (pv 3) pa_nil)) rfl)))))))), ?_⟩
  obtain ⟨x, dx, n, a, us, L, rfl, hx, ha, hL, hn, hq, hl, hone, hQ⟩ := h
  refine ⟨_, rfl, (n : Int), rfl, by omega, by omega, ?_⟩
  refine ⟨_, rfl, t2, fun tp htp => ⟨_, tp, _, _, _, _, rfl, upd_same, .cons (.ty _) (.cons (.ty _) .nil), .base (.lst (upd_new htp ha)), kit_list, _, rfl, ifF rfl ?_⟩⟩
  refine ⟨t0, fun D hD => ?_⟩
  have e0 : Ex H (upd (upd H tp (.tup [.ty "list", .ty "tuple"])) D (.lst [])) := (Ex.nw htp).tr (.nw hD)
  have hDH : H D = none := (Ex.nw htp).fr hD
  refine ⟨_, rfl, a, rfl, ⟨_, SqL.of (e0 _ _ ha)⟩, ?_⟩
  refine for_seqL (hL.mo mo_RQ (.of e0)) mo_RQ (fun s q => s ++ [(fun q => q) q]) [] (fun i s σ H1 => ∃ m4, σ = [some (.ref x), some (.int (n : Int)), some (.ref a), some (.ref D), m4] ∧ Bl (RQ K) H D s H1 ∧ Imm (upd (upd H tp (.tup [.ty "list", .ty "tuple"])) D (.lst [])) H1 ∧ s.length ≤ i) ⟨none, rfl, ⟨e0, hDH, [], upd_same, .nil⟩, .rf, Nat.le_refl _⟩ (fun i s σ H1 h => ?_) (fun i s q y σ H1 hi hy h => ?_) fun σ H1 h => ?_
  · obtain ⟨m4, rfl, hB, hI, _⟩ := h
    exact ⟨SqL.of (hB.ex _ _ ha), hI⟩
  · obtain ⟨m4, rfl, hB, hI, hs⟩ := h
    have hi2 := (List.getElem?_eq_some_iff.mp hi).1
    obtain ⟨t, x1, y1, rfl, ht, r1, r2⟩ := hy
    obtain ⟨q1, q2⟩ := hq q (List.mem_of_getElem? hi)
    refine ⟨_, rfl, cls_of (isi_ty (.base (.tup ht)) (by decide +kernel) ⟨true, rfl, ifF rfl ?_⟩)⟩
    refine ⟨_, rfl, t, _, rfl, .inr (SqT.of ht), rfl, _, rfl, ifF rfl ?_⟩
    refine ⟨_, rfl, _, rfl, t, _, _, _, rfl, rfl, SqT.of ht, atI_nat (j := 0) rfl, x1, q.1, by rw [q1]; rfl, r1, q2, by rw [q1]; omega, fun H3 e3 => ⟨_, rfl, ifF rfl ?_⟩⟩
    have ht3 := e3 _ _ ht
    have hB3 := hB.grow mo_RQ e3
    refine ⟨_, rfl, Or.inl ⟨rfl, hB3.sql⟩, _, rfl, t, _, _, _, rfl, rfl, SqT.of ht3, atI_nat (j := 0) rfl, _, rfl, t, _, _, _, rfl, rfl, SqT.of ht3, atI_nat (j := 1) rfl, _, q.2, rfl, mo_RR (.of e3) r2, t2, fun p hp => nil_of (app_of mo_RQ (hB3.grow mo_RQ (.nw hp)) ⟨p, _, _, rfl, upd_same, mo_RT ((Imm.of e3).tr (.nw hp)) r1, mo_RR ((Imm.of e3).tr (.nw hp)) r2⟩ (by omega) fun H4 b4 e4 => ?_)⟩
    refine ⟨_, rfl, b4, ?_, by rw [List.length_append]; show _ + 1 ≤ _; omega⟩
    exact hI.tr ((Imm.of (e3.tr (.nw hp))).tr ((hB3.grow mo_RQ (.nw hp)).imm e4))
  · obtain ⟨m4, rfl, hB, hI, hs⟩ := h
    rw [foldl_snoc (fun q => q), List.nil_append, all_id] at hB hs
    have hx1 := hB.ex _ _ hx
    refine ⟨_, rfl, _, rfl, x, _, dx, _, rfl, hx1, T.cL, T.nLn, by decide, ?_⟩
    obtain ⟨us4, h1, h2⟩ := hB.acc
    have nD : D ≠ x := fun e => by rw [e, hx1] at h1; cases h1
    refine ⟨_, rfl, D, us4, L, rfl, by rw [upd_ne nD]; exact h1, Paired.mapP h2 fun _ _ r => rq_upd hx1 (by decide) r, hl, hone, fun v H5 e5 hv => ?_⟩
    have hx5 := e5 _ _ (upd_same (H := H1) (o := .ins (CL K) dx (putF "n" (.int (n : Int)) [])) (a := x))
    refine ⟨_, rfl, x, _, dx, _, rfl, hx5, T.cL, T.nLt, by show 1 < 1000; decide, hQ _ (fun b o nb hb => ?_) ⟨x, dx, v, rfl, upd_same, rts_upd hx5 (by show 1 < 2; decide) hv⟩⟩
    have nbx : b ≠ x := fun e => nb (by rw [e]; exact List.mem_cons_self ..)
    rw [upd_ne nbx]
    refine e5 _ _ ?_
    rw [upd_ne nbx]
    exact hB.ex _ _ hb
def spSinit (tup : Bool) (K : PySem.W.Frag) : Sp := fun vs H Q _ => ∃ (x dx : Addr) (b : SF.B) (a : Addr) (us : List V) (L : Tb), vs = [.ref x, .str (bstr b), .ref a] ∧ H x = some (.ins (CS K) dx []) ∧ H a = some (if tup then .tup us else .lst us) ∧ All (RQ K) H us L ∧ (∀ q ∈ L, OkPt q.1 ∧ q.1.length ≤ 1000 ∧ q.1.sum ≤ 8) ∧ L.length ≤ 50000 ∧
  ∀ H', ExS [x] H H' → RSy K H' (.ref x) (b, addedParts L) → Q .non H'
theorem sign_of (b : SF.B) : ∃ c : Nat, bstr b = ⟨#[c]⟩ ∧ decide (c ∈ (Str.ofString "mehps").cps.toList) = true ∧ (bstr b).length = 1 := by
  cases b
  · exact ⟨109, by decide +kernel, by decide +kernel, by decide +kernel⟩
  · exact ⟨101, by decide +kernel, by decide +kernel, by decide +kernel⟩
  · exact ⟨104, by decide +kernel, by decide +kernel, by decide +kernel⟩
  · exact ⟨112, by decide +kernel, by decide +kernel, by decide +kernel⟩
  · exact ⟨115, by decide +kernel, by decide +kernel, by decide +kernel⟩
theorem sc_Symmetric_init : FnScope ["self", "base", "pairs", "found", "pair", "part", "_"] ["self", "base", "pairs"] (defScope (inClass (top 50) 0)) := ⟨rfl, rfl, rfl, by decide +kernel, rfl, by decide +kernel, by decide +kernel⟩
theorem ok_Symmetric_init (T : Tx K mg) : CalI P w K mg base 12 "Symmetric" ["self", "base", "pairs"] [] (spSinit false K) := by
  obtain ⟨tmb, hmb⟩ := T.mb
  have c_is_partition := ok_is_partition (P := P) (w := w) (base := base) T
  have c_check_part := ok_check_part (P := P) (w := w) (base := base) T
  have c_as_ratio := ok_as_ratio (P := P) (w := w) (base := base) T
  have c_added_parts := ok_added_parts (P := P) (w := w) (base := base) T
  obtain ⟨fd, F⟩ := T.d 53 _ rfl
  have sc := sc_Symmetric_init
  refine ⟨_, fd, [], FunD.ok (k := 11) F sc (fun vs H Q E h => by obtain ⟨_, _, _, _, _, _, rfl, _⟩ := h; rfl) (fun cdv A outer s H vs Q E hr h => ?_), T.g "Symmetric" (by decide +kernel), He.mkr_ok (T.a 11 (.mkr "Symmetric") rfl), FunD.bindsN F (fun _ _ _ _ _ _ us hl => match us, hl with | [_, _, _], _ => rfl), .nil⟩
  refine ⟨_, PSs.nox ((pss_cons (ps_if (PW.pt (pw_or (pt_not (pt_val (pe_callB call_isi (by rfl) (T.f "isinstance" (by decide +kernel)) (by decide +kernel) (pa_cons (pv 1) (pa_cons (pe_ty (n := "str") (T.f "str" (by decide +kernel))) pa_nil))))) (pw_or (pt_cmpR op_ne (pe_callB call_len_str (by rfl) (T.f "len" (by decide +kernel)) (by decide +kernel) (pa_cons (pv 1) pa_nil)) pe_int (nomark _)) (pw_or (pt_cmpR op_notIn_sign (pv 1) (pe_glob (v := .str "mehps") rfl hmb ⟨_, rfl⟩) (by rfl)) (pw_or1 (pt_not (pt_val (pe_callB call_isiT (by rfl) (T.f "isinstance" (by decide +kernel)) (by decide +kernel) (pa_cons (pv 2) (pa_cons (pe_tup (pa_cons (pe_ty (n := "list") (T.f "list" (by decide +kernel))) (pa_cons (pe_ty (n := "tuple") (T.f "tuple" (by decide +kernel))) pa_nil))) pa_nil))))))))))
  (pss_one ps_never) pss_nil)
  (pss_cons (ps_set (i := 3) sc.nd rfl (Or.inl rfl) (pe_lst pa_nil))
  (pss_cons (ps_for PassesOwn.never rfl (pi_list (pv 2)) (pg_name (i := 4) sc.nd rfl (Or.inl rfl))
  (pss_cons (ps_if (PW.pt (pw_or (pt_not (pt_val (pe_callB call_isi (by rfl) (T.f "isinstance" (by decide +kernel)) (by decide +kernel) (pa_cons (pv 4) (pa_cons (pe_ty (n := "tuple") (T.f "tuple" (by decide +kernel))) pa_nil))))) (pw_or (pt_cmpR op_ne (pe_callB call_len_seq (by rfl) (T.f "len" (by decide +kernel)) (by decide +kernel) (pa_cons (pv 4) pa_nil)) pe_int (nomark _)) (pw_or1 (pt_not (pt_val (pe_cg c_is_partition (hr.mono (by decide)) (pa_cons (pe_ix ix_tup (pv 4) pe_int (fun _ _ => rfl)) pa_nil))))))))
  (pss_one ps_never) pss_nil)
  (pss_one (ps_expr (pe_bm PySem.F.plainAttrs_list PySem.F.slot_list_append PySem.F.type_list_append mt_append (pv 3) (pa_cons (pe_tup (pa_cons (pe_ix ix_tup (pv 4) pe_int (fun _ _ => rfl)) (pa_cons (pe_cg c_as_ratio (hr.mono (by decide)) (pa_cons (pe_ix ix_tup (pv 4) pe_int (fun _ _ => rfl)) pa_nil)) pa_nil))) pa_nil))))))
  (pss_cons (ps_for PassesOwn.never rfl (pi_list (pv 3)) (pg_tup rfl (pgs_cons (pg_name (i := 5) sc.nd rfl (Or.inl rfl)) (pgs_cons (pg_name (i := 6) sc.nd rfl (Or.inl rfl)) pgs_nil)))
  (pss_one (ps_expr (pe_cg c_check_part (hr.mono (by decide)) (pa_cons (pv 5) pa_nil)))))
  (pss_cons (ps_fld (pv 0) (pv 1) rfl)
  (pss_one (ps_fld (pv 0) (pe_cg c_added_parts (hr.mono (by decide)) (pa_cons (pv 3) pa_nil)) rfl)))))))), ?_⟩
  obtain ⟨x, dx, b, a, us, L, rfl, hx, ha, hL, hq, hl, hQ⟩ := h
  obtain ⟨cs, sg1, sg2, sg3⟩ := sign_of b
  refine ⟨_, rfl, cls_of (isi_ty (.base (.str _)) (by decide +kernel) ⟨true, rfl, ifF rfl ?_⟩)⟩
  refine ⟨_, rfl, bstr b, rfl, by rw [sg3]; exact line_of (by decide), rfl, _, rfl, ifF (by rw [sg3]; rfl) ?_⟩
  refine ⟨_, rfl, cs, _, by rw [sg1], rfl, _, rfl, ifF (by rw [sg2]; rfl) ?_⟩
  refine ⟨_, rfl, t2, fun tp htp => ⟨_, tp, _, _, _, _, rfl, upd_same, .cons (.ty _) (.cons (.ty _) .nil), .base (.lst (upd_new htp ha)), kit_list, _, rfl, ifF rfl ?_⟩⟩
  refine ⟨t0, fun D hD => ?_⟩
  have e0 : Ex H (upd (upd H tp (.tup [.ty "list", .ty "tuple"])) D (.lst [])) := (Ex.nw htp).tr (.nw hD)
  have hDH : H D = none := (Ex.nw htp).fr hD
  refine ⟨_, rfl, a, rfl, ⟨_, SqL.of (e0 _ _ ha)⟩, ?_⟩
  refine for_seqL (hL.mo mo_RQ (.of e0)) mo_RQ (fun s q => s ++ [(fun q => q) q]) [] (fun i s σ H1 => ∃ m4 m5 m6, σ = [some (.ref x), some (.str (bstr b)), some (.ref a), some (.ref D), m4, m5, m6] ∧ Bl (RQ K) H D s H1 ∧ Imm (upd (upd H tp (.tup [.ty "list", .ty "tuple"])) D (.lst [])) H1 ∧ s.length ≤ i) ⟨none, none, none, rfl, ⟨e0, hDH, [], upd_same, .nil⟩, .rf, Nat.le_refl _⟩ (fun i s σ H1 h => ?_) (fun i s q y σ H1 hi hy h => ?_) fun σ H1 h => ?_
  · obtain ⟨m4, m5, m6, rfl, hB, hI, _⟩ := h
    exact ⟨SqL.of (hB.ex _ _ ha), hI⟩
  · obtain ⟨m4, m5, m6, rfl, hB, hI, hs⟩ := h
    have hi2 := (List.getElem?_eq_some_iff.mp hi).1
    obtain ⟨t, x1, y1, rfl, ht, r1, r2⟩ := hy
    obtain ⟨q1, q2, q3⟩ := hq q (List.mem_of_getElem? hi)
    refine ⟨_, rfl, cls_of (isi_ty (.base (.tup ht)) (by decide +kernel) ⟨true, rfl, ifF rfl ?_⟩)⟩
    refine ⟨_, rfl, t, _, rfl, .inr (SqT.of ht), rfl, _, rfl, ifF rfl ?_⟩
    refine ⟨_, rfl, t, _, _, _, rfl, rfl, SqT.of ht, atI_nat (j := 0) rfl, x1, q.1, rfl, r1, q1, q2, _, rfl, ifF rfl ?_⟩
    refine ⟨_, rfl, Or.inl ⟨rfl, hB.sql⟩, _, rfl, t, _, _, _, rfl, rfl, SqT.of ht, atI_nat (j := 0) rfl, _, rfl, t, _, _, _, rfl, rfl, SqT.of ht, atI_nat (j := 1) rfl, _, q.2, rfl, r2, t2, fun p hp => nil_of (app_of mo_RQ (hB.grow mo_RQ (.nw hp)) ⟨p, _, _, rfl, upd_same, mo_RT (.nw hp) r1, mo_RR (.nw hp) r2⟩ (by omega) fun H4 b4 e4 => ?_)⟩
    refine ⟨_, _, _, rfl, b4, ?_, by rw [List.length_append]; show _ + 1 ≤ _; omega⟩
    exact hI.tr ((Imm.nw hp).tr ((hB.grow mo_RQ (.nw hp)).imm e4))
  · obtain ⟨m4, m5, m6, rfl, hB, hI, hs⟩ := h
    rw [foldl_snoc (fun q => q), List.nil_append, all_id] at hB hs
    obtain ⟨us4, h1, h2⟩ := hB.acc
    refine ⟨_, rfl, D, rfl, ⟨_, SqL.of h1⟩, ?_⟩
    refine for_seqL h2 mo_RQ (fun (s : Unit) _ => s) () (fun i s σ H2 => ∃ m4 m5 m6, σ = [some (.ref x), some (.str (bstr b)), some (.ref a), some (.ref D), m4, m5, m6] ∧ H2 = H1) ⟨_, _, _, rfl, rfl⟩ (fun i s σ H2 h => ?_) (fun i s q y σ H2 hi hy h => ?_) fun σ H2 h => ?_
    · obtain ⟨m4, m5, m6, rfl, rfl⟩ := h
      exact ⟨SqL.of h1, .rf⟩
    · obtain ⟨m4, m5, m6, rfl, rfl⟩ := h
      obtain ⟨t, x1, y1, rfl, ht, r1, r2⟩ := hy
      obtain ⟨q1, q2, q3⟩ := hq q (List.mem_of_getElem? hi)
      exact ⟨t, _, rfl, SqT.of ht, rfl, _, _, rfl, _, _, rfl, rfl, _, rfl, x1, q.1, rfl, r1, q1, q2, q3, _, _, _, rfl, rfl⟩
    obtain ⟨m4, m5, m6, rfl, rfl⟩ := h
    have hx1 := hB.ex _ _ hx
    refine ⟨_, rfl, _, rfl, x, _, dx, _, rfl, hx1, T.cS, T.nSb, by decide, ?_⟩
    have nD : D ≠ x := fun e => by rw [e, hx1] at h1; cases h1
    refine ⟨_, rfl, D, us4, L, rfl, by rw [upd_ne nD]; exact h1, Paired.mapP h2 fun _ _ r => rq_upd hx1 (by decide) r, hl, fun v H5 e5 hv => ?_⟩
    have hx5 := e5 _ _ (upd_same (H := H2) (o := .ins (CS K) dx (putF "base" (.str (bstr b)) [])) (a := x))
    refine ⟨_, rfl, x, _, dx, _, rfl, hx5, T.cS, T.nSt, by show 1 < 1000; decide, hQ _ (fun b o nb hb => ?_) ⟨x, dx, v, rfl, upd_same, rts_upd hx5 (by show 1 < 2; decide) hv⟩⟩
    have nbx : b ≠ x := fun e => nb (by rw [e]; exact List.mem_cons_self ..)
    rw [upd_ne nbx]
    refine e5 _ _ ?_
    rw [upd_ne nbx]
    exact hB.ex _ _ hb
theorem ok_Symmetric_init_T (T : Tx K mg) : CalI P w K mg base 12 "Symmetric" ["self", "base", "pairs"] [] (spSinit true K) := by
  obtain ⟨tmb, hmb⟩ := T.mb
  have c_is_partition := ok_is_partition (P := P) (w := w) (base := base) T
  have c_check_part := ok_check_part (P := P) (w := w) (base := base) T
  have c_as_ratio := ok_as_ratio (P := P) (w := w) (base := base) T
  have c_added_parts := ok_added_parts (P := P) (w := w) (base := base) T
  obtain ⟨fd, F⟩ := T.d 53 _ rfl
  have sc := sc_Symmetric_init
  refine ⟨_, fd, [], FunD.ok (k := 11) F sc (fun vs H Q E h => by obtain ⟨_, _, _, _, _, _, rfl, _⟩ := h; rfl) (fun cdv A outer s H vs Q E hr h => ?_), T.g "Symmetric" (by decide +kernel), He.mkr_ok (T.a 11 (.mkr "Symmetric") rfl), FunD.bindsN F (fun _ _ _ _ _ _ us hl => match us, hl with | [_, _, _], _ => rfl), .nil⟩
  refine ⟨_, PSs.nox ((pss_cons (ps_if (PW.pt (pw_or (pt_not (pt_val (pe_callB call_isi (by rfl) (T.f "isinstance" (by decide +kernel)) (by decide +kernel) (pa_cons (pv 1) (pa_cons (pe_ty (n := "str") (T.f "str" (by decide +kernel))) pa_nil))))) (pw_or (pt_cmpR op_ne (pe_callB call_len_str (by rfl) (T.f "len" (by decide +kernel)) (by decide +kernel) (pa_cons (pv 1) pa_nil)) pe_int (nomark _)) (pw_or (pt_cmpR op_notIn_sign (pv 1) (pe_glob (v := .str "mehps") rfl hmb ⟨_, rfl⟩) (by rfl)) (pw_or1 (pt_not (pt_val (pe_callB call_isiT (by rfl) (T.f "isinstance" (by decide +kernel)) (by decide +kernel) (pa_cons (pv 2) (pa_cons (pe_tup (pa_cons (pe_ty (n := "list") (T.f "list" (by decide +kernel))) (pa_cons (pe_ty (n := "tuple") (T.f "tuple" (by decide +kernel))) pa_nil))) pa_nil))))))))))
  (pss_one ps_never) pss_nil)
  (pss_cons (ps_set (i := 3) sc.nd rfl (Or.inl rfl) (pe_lst pa_nil))
  (pss_cons (ps_for PassesOwn.never rfl (pi_tup (pv 2)) (pg_name (i := 4) sc.nd rfl (Or.inl rfl))
  (pss_cons (ps_if (PW.pt (pw_or (pt_not (pt_val (pe_callB call_isi (by rfl) (T.f "isinstance" (by decide +kernel)) (by decide +kernel) (pa_cons (pv 4) (pa_cons (pe_ty (n := "tuple") (T.f "tuple" (by decide +kernel))) pa_nil))))) (pw_or (pt_cmpR op_ne (pe_callB call_len_seq (by rfl) (T.f "len" (by decide +kernel)) (by decide +kernel) (pa_cons (pv 4) pa_nil)) pe_int (nomark _)) (pw_or1 (pt_not (pt_val (pe_cg c_is_partition (hr.mono (by decide)) (pa_cons (pe_ix ix_tup (pv 4) pe_int (fun _ _ => rfl)) pa_nil))))))))
  (pss_one ps_never) pss_nil)
  (pss_one (ps_expr (pe_bm PySem.F.plainAttrs_list PySem.F.slot_list_append PySem.F.type_list_append mt_append (pv 3) (pa_cons (pe_tup (pa_cons (pe_ix ix_tup (pv 4) pe_int (fun _ _ => rfl)) (pa_cons (pe_cg c_as_ratio (hr.mono (by decide)) (pa_cons (pe_ix ix_tup (pv 4) pe_int (fun _ _ => rfl)) pa_nil)) pa_nil))) pa_nil))))))
  (pss_cons (ps_for PassesOwn.never rfl (pi_list (pv 3)) (pg_tup rfl (pgs_cons (pg_name (i := 5) sc.nd rfl (Or.inl rfl)) (pgs_cons (pg_name (i := 6) sc.nd rfl (Or.inl rfl)) pgs_nil)))
  (pss_one (ps_expr (pe_cg c_check_part (hr.mono (by decide)) (pa_cons (pv 5) pa_nil)))))
  (pss_cons (ps_fld (pv 0) (pv 1) rfl)
  (pss_one (ps_fld (pv 0) (pe_cg c_added_parts (hr.mono (by decide)) (pa_cons (pv 3) pa_nil)) rfl)))))))), ?_⟩
  obtain ⟨x, dx, b, a, us, L, rfl, hx, ha, hL, hq, hl, hQ⟩ := h
  obtain ⟨cs, sg1, sg2, sg3⟩ := sign_of b
  refine ⟨_, rfl, cls_of (isi_ty (.base (.str _)) (by decide +kernel) ⟨true, rfl, ifF rfl ?_⟩)⟩
  refine ⟨_, rfl, bstr b, rfl, by rw [sg3]; exact line_of (by decide), rfl, _, rfl, ifF (by rw [sg3]; rfl) ?_⟩
  refine ⟨_, rfl, cs, _, by rw [sg1], rfl, _, rfl, ifF (by rw [sg2]; rfl) ?_⟩
  refine ⟨_, rfl, t2, fun tp htp => ⟨_, tp, _, _, _, _, rfl, upd_same, .cons (.ty _) (.cons (.ty _) .nil), .base (.tup (upd_new htp ha)), kit_tup, _, rfl, ifF rfl ?_⟩⟩
  refine ⟨t0, fun D hD => ?_⟩
  have e0 : Ex H (upd (upd H tp (.tup [.ty "list", .ty "tuple"])) D (.lst [])) := (Ex.nw htp).tr (.nw hD)
  have hDH : H D = none := (Ex.nw htp).fr hD
  refine ⟨_, rfl, a, rfl, ⟨_, SqT.of (e0 _ _ ha)⟩, ?_⟩
  refine for_seqT (hL.mo mo_RQ (.of e0)) mo_RQ (fun s q => s ++ [(fun q => q) q]) [] (fun i s σ H1 => ∃ m4 m5 m6, σ = [some (.ref x), some (.str (bstr b)), some (.ref a), some (.ref D), m4, m5, m6] ∧ Bl (RQ K) H D s H1 ∧ Imm (upd (upd H tp (.tup [.ty "list", .ty "tuple"])) D (.lst [])) H1 ∧ s.length ≤ i) ⟨none, none, none, rfl, ⟨e0, hDH, [], upd_same, .nil⟩, .rf, Nat.le_refl _⟩ (fun i s σ H1 h => ?_) (fun i s q y σ H1 hi hy h => ?_) fun σ H1 h => ?_
  · obtain ⟨m4, m5, m6, rfl, hB, hI, _⟩ := h
    exact ⟨SqT.of (hB.ex _ _ ha), hI⟩
  · obtain ⟨m4, m5, m6, rfl, hB, hI, hs⟩ := h
    have hi2 := (List.getElem?_eq_some_iff.mp hi).1
    obtain ⟨t, x1, y1, rfl, ht, r1, r2⟩ := hy
    obtain ⟨q1, q2, q3⟩ := hq q (List.mem_of_getElem? hi)
    refine ⟨_, rfl, cls_of (isi_ty (.base (.tup ht)) (by decide +kernel) ⟨true, rfl, ifF rfl ?_⟩)⟩
    refine ⟨_, rfl, t, _, rfl, .inr (SqT.of ht), rfl, _, rfl, ifF rfl ?_⟩
    refine ⟨_, rfl, t, _, _, _, rfl, rfl, SqT.of ht, atI_nat (j := 0) rfl, x1, q.1, rfl, r1, q1, q2, _, rfl, ifF rfl ?_⟩
    refine ⟨_, rfl, Or.inl ⟨rfl, hB.sql⟩, _, rfl, t, _, _, _, rfl, rfl, SqT.of ht, atI_nat (j := 0) rfl, _, rfl, t, _, _, _, rfl, rfl, SqT.of ht, atI_nat (j := 1) rfl, _, q.2, rfl, r2, t2, fun p hp => nil_of (app_of mo_RQ (hB.grow mo_RQ (.nw hp)) ⟨p, _, _, rfl, upd_same, mo_RT (.nw hp) r1, mo_RR (.nw hp) r2⟩ (by omega) fun H4 b4 e4 => ?_)⟩
    refine ⟨_, _, _, rfl, b4, ?_, by rw [List.length_append]; show _ + 1 ≤ _; omega⟩
    exact hI.tr ((Imm.nw hp).tr ((hB.grow mo_RQ (.nw hp)).imm e4))
  · obtain ⟨m4, m5, m6, rfl, hB, hI, hs⟩ := h
    rw [foldl_snoc (fun q => q), List.nil_append, all_id] at hB hs
    obtain ⟨us4, h1, h2⟩ := hB.acc
    refine ⟨_, rfl, D, rfl, ⟨_, SqL.of h1⟩, ?_⟩
    refine for_seqL h2 mo_RQ (fun (s : Unit) _ => s) () (fun i s σ H2 => ∃ m4 m5 m6, σ = [some (.ref x), some (.str (bstr b)), some (.ref a), some (.ref D), m4, m5, m6] ∧ H2 = H1) ⟨_, _, _, rfl, rfl⟩ (fun i s σ H2 h => ?_) (fun i s q y σ H2 hi hy h => ?_) fun σ H2 h => ?_
    · obtain ⟨m4, m5, m6, rfl, rfl⟩ := h
      exact ⟨SqL.of h1, .rf⟩
    · obtain ⟨m4, m5, m6, rfl, rfl⟩ := h
      obtain ⟨t, x1, y1, rfl, ht, r1, r2⟩ := hy
      obtain ⟨q1, q2, q3⟩ := hq q (List.mem_of_getElem? hi)
      exact ⟨t, _, rfl, SqT.of ht, rfl, _, _, rfl, _, _, rfl, rfl, _, rfl, x1, q.1, rfl, r1, q1, q2, q3, _, _, _, rfl, rfl⟩
    obtain ⟨m4, m5, m6, rfl, rfl⟩ := h
    have hx1 := hB.ex _ _ hx
    refine ⟨_, rfl, _, rfl, x, _, dx, _, rfl, hx1, T.cS, T.nSb, by decide, ?_⟩
    have nD : D ≠ x := fun e => by rw [e, hx1] at h1; cases h1
    refine ⟨_, rfl, D, us4, L, rfl, by rw [upd_ne nD]; exact h1, Paired.mapP h2 fun _ _ r => rq_upd hx1 (by decide) r, hl, fun v H5 e5 hv => ?_⟩
    have hx5 := e5 _ _ (upd_same (H := H2) (o := .ins (CS K) dx (putF "base" (.str (bstr b)) [])) (a := x))
    refine ⟨_, rfl, x, _, dx, _, rfl, hx5, T.cS, T.nSt, by show 1 < 1000; decide, hQ _ (fun b o nb hb => ?_) ⟨x, dx, v, rfl, upd_same, rts_upd hx5 (by show 1 < 2; decide) hv⟩⟩
    have nbx : b ≠ x := fun e => nb (by rw [e]; exact List.mem_cons_self ..)
    rw [upd_ne nbx]
    refine e5 _ _ ?_
    rw [upd_ne nbx]
    exact hB.ex _ _ hb
end
end FB
namespace FB
open PySem PySem.Spec PyProof.Rows L2 SF FR
section
variable {P : Program} {w : World} {K : PySem.W.Frag} {mg : Str → Option Value} {base : Heap}
theorem exps_nn : ∀ (n d : Nat) (r : Pt), r ∈ exps n d → ∀ y ∈ r, 0 ≤ y
  | 0, d, r, h => by
    unfold exps at h
    split at h
    · rw [List.mem_singleton.mp h]; intro y hy; cases hy
    · cases h
  | n + 1, d, r, h => by
    unfold exps at h
    obtain ⟨i, _, h2⟩ := List.mem_flatMap.mp h
    obtain ⟨r', h3, rfl⟩ := List.mem_map.mp h2
    intro y hy
    rcases List.mem_cons.mp hy with rfl | hy
    · omega
    · exact exps_nn n i r' h3 y hy
/-- what the making of a Symmetric asks of its terms -/
def okL (L : Tb) : Prop := (∀ q ∈ L, OkPt q.1 ∧ q.1.length ≤ 1000 ∧ q.1.sum ≤ 8) ∧ L.length ≤ 40
def okM (b : SF.B) (M : Tb) : Prop := M.length ≤ 40 ∧ (b ≠ .m → ∀ q ∈ M, meanOk b q.1 = true)
theorem op_eqPK {X : Cx} {K : PySem.W.Frag} (hr : Room 1 X.A) (h : X.K = K := by rfl) : OpR X (compareOp .Eq) (rEqB (DTB K DIB)) := h ▸ op_eqP hr
def spMeanM (K : PySem.W.Frag) : Sp := fun vs H Q _ => ∃ (x : V) (b : SF.B) (M : Tb), vs = [x] ∧ RSy K H x (b, M) ∧ okM b M ∧ okL (meaning b M) ∧ ∀ v H', Ex H H' → RSy K H' v (.m, addedParts (meaning b M)) → Q v H'
theorem sc_Symmetric_meaning : FnScope ["self"] ["self"] (defScope (inClass (top 50) 12)) := ⟨rfl, rfl, rfl, by decide +kernel, rfl, by decide +kernel, by decide +kernel⟩
theorem ok_Symmetric_meaning (T : Tx K mg) : CalM P w K mg base 15 (He.ga K "Symmetric") "meaning" ["self"] [] (spMeanM K) := by
  have c_meaning_terms := ok_meaning_terms (P := P) (w := w) (base := base) T
  have c_Symmetric := ok_Symmetric_init_T (P := P) (w := w) (base := base) T
  obtain ⟨fd, F⟩ := T.d 56 _ rfl
  have sc := sc_Symmetric_meaning
  refine ⟨_, fd, [], FunD.ok (k := 14) F sc (fun vs H Q E h => by obtain ⟨_, _, _, rfl, _⟩ := h; rfl) (fun cdv A outer s H vs Q E hr h => ?_), He.meth_ok (T.a 18 (.meth "Symmetric" "meaning") rfl), FunD.bindsN F (fun _ _ _ _ _ _ us hl => match us, hl with | [_], _ => rfl), .nil⟩
  refine ⟨_, PSs.nox ((pss_one (ps_ret (pe_mk c_Symmetric (hr.mono (by decide)) (pa_cons pe_str (pa_cons (pe_cg c_meaning_terms (hr.mono (by decide)) (pa_cons (pe_fld (pv 0) rfl) (pa_cons (pe_fld (pv 0) rfl) pa_nil))) pa_nil)))))), ?_⟩
  obtain ⟨x, b, M, rfl, ⟨a, dx, t, rfl, ha, ⟨tt, us, rfl, ht, hA⟩⟩, ⟨o1, o2⟩, ⟨l1, l2⟩, hQ⟩ := h
  refine ⟨_, rfl, a, _, dx, _, _, rfl, ha, T.cS, T.nSb, rfl, _, rfl, a, _, dx, _, _, rfl, ha, T.cS, T.nSt, rfl, b, tt, us, M, rfl, ht, hA, o1, o2, fun v H2 e2 hv => ?_⟩
  obtain ⟨t2, us2, rfl, ht2, hA2⟩ := hv
  intro y dy hy hdy hne
  refine ⟨y, dy, .m, t2, us2, meaning b M, rfl, upd_same, ?_, ?_, l1, by omega, fun H3 e3 h3 => ⟨rfl, hQ _ _ (e2.tr (mk_ex hy hdy e3)) h3⟩⟩
  · exact upd_new (upd_none2 hy hne) (upd_new hdy ht2)
  · exact hA2.mo mo_RQ ((Imm.nw hdy).tr (.nw (upd_none2 hy hne)))
def spPolyM (K : PySem.W.Frag) : Sp := fun vs H Q _ => ∃ (x : V) (n : Nat) (b : SF.B) (M : Tb), vs = [x, .int (n : Int)] ∧ n ≤ 4 ∧ RSy K H x (b, M) ∧ okM b M ∧ (meaning b M).length ≤ 40 ∧ (∀ q ∈ meaning b M, 0 ≤ q.1.sum ∧ q.1.sum ≤ 8) ∧ ∀ v H', Ex H H' → RLt K H' v ((n : Int), polyF (meaning b M) n) → Q v H'
theorem fm_filter {α β : Type} (p : α → Bool) (f : α → β) (l : List α) : l.filterMap (fun v => if p v = true then some (f v) else none) = (l.filter p).map f := by
  induction l with
  | nil => rfl
  | cons x l ih =>
    by_cases h : p x = true
    · rw [List.filterMap_cons_some (by rw [if_pos h]), List.filter_cons_of_pos h, List.map_cons, ih]
    · rw [List.filterMap_cons_none (by rw [if_neg h]), List.filter_cons_of_neg h, ih]
theorem sc_Symmetric_polynomial : FnScope ["self", "n", "pairs", "part", "c", "v"] ["self", "n"] (defScope (inClass (top 50) 11)) := ⟨rfl, rfl, rfl, by decide +kernel, rfl, by decide +kernel, by decide +kernel⟩
theorem ok_Symmetric_polynomial (T : Tx K mg) : CalM P w K mg base 15 (He.ga K "Symmetric") "polynomial" ["self", "n"] [] (spPolyM K) := by
  have c_meaning_terms := ok_meaning_terms (P := P) (w := w) (base := base) T
  have c_Letters := ok_Letters_init (P := P) (w := w) (base := base) T
  have c_monomials := ok_monomials (P := P) (w := w) (base := base) T 9
  have c_size := ok_size (P := P) (w := w) (base := base) T
  have c_descending := ok_descending (P := P) (w := w) (base := base) T
  obtain ⟨fd, F⟩ := T.d 55 _ rfl
  have sc := sc_Symmetric_polynomial
  refine ⟨_, fd, [], FunD.ok (k := 14) F sc (fun vs H Q E h => by obtain ⟨_, _, _, _, rfl, _⟩ := h; rfl) (fun cdv A outer s H vs Q E hr h => ?_), He.meth_ok (T.a 17 (.meth "Symmetric" "polynomial") rfl), FunD.bindsN F (fun _ _ _ _ _ _ us hl => match us, hl with | [_, _], _ => rfl), .nil⟩
  refine ⟨_, PSs.nox ((pss_cons (ps_set (i := 2) sc.nd rfl (Or.inl rfl) (pe_lst pa_nil))
  (pss_cons (ps_for PassesOwn.never rfl (pi_tup (pe_cg c_meaning_terms (hr.mono (by decide)) (pa_cons (pe_fld (pv 0) rfl) (pa_cons (pe_fld (pv 0) rfl) pa_nil)))) (pg_tup rfl (pgs_cons (pg_name (i := 3) sc.nd rfl (Or.inr rfl)) (pgs_cons (pg_name (i := 4) sc.nd rfl (Or.inr rfl)) pgs_nil)))
  (pss_one (ps_expr (pe_bm PySem.F.plainAttrs_list PySem.F.slot_list_extend PySem.F.type_list_extend mt_extend (pv 2) (pa_cons (pe_lc (own := [("v", 5)]) rfl sc.nd (pi_tup (pe_cg c_monomials (hr.mono (by decide)) (pa_cons (pv 1) (pa_cons (pe_cg c_size (hr.mono (by decide)) (pa_cons (pv 3) pa_nil)) pa_nil)))) (blkOk_by (N := ["self", "n", "pairs", "part", "c", "v"]) (sc := defScope (inClass (top 50) 11)) (by decide +kernel)) (fun _ _ _ _ _ => (pg_name (i := 5) sc.nd rfl (Or.inl rfl))) (fun _ _ _ _ _ => (pts_one (pt_cmpR (op_eqPK (K := K) (hr.mono (by decide))) (pe_cg c_descending (hr.mono (by decide)) (pa_cons (pv 5) pa_nil)) (pv 3) (nomark _)))) (fun _ _ _ _ _ => (pe_tup (pa_cons (pv 5) (pa_cons (pv 4) pa_nil))))) pa_nil)))))
  (pss_one (ps_ret (pe_mk c_Letters (hr.mono (by decide)) (pa_cons (pv 1) (pa_cons (pv 2) pa_nil)))))))), ?_⟩
  obtain ⟨x, n, b, M, rfl, hn, ⟨a, dx, t, rfl, ha, ⟨tt, us, rfl, ht, hA⟩⟩, ⟨o1, o2⟩, l40, hsz, hQ⟩ := h
  refine ⟨t0, fun D hD => ?_⟩
  have e0 : Ex H (upd H D (.lst [])) := .nw hD
  refine ⟨_, rfl, a, _, dx, _, _, rfl, e0 _ _ ha, T.cS, T.nSb, rfl, _, rfl, a, _, dx, _, _, rfl, e0 _ _ ha, T.cS, T.nSt, rfl, b, tt, us, M, rfl, e0 _ _ ht, hA.mo mo_RQ (.of e0), o1, o2, fun v H2 e2 hv => ?_⟩
  obtain ⟨tm, us2, rfl, htm, hA2⟩ := hv
  have B2 : Bl (RQ K) H D [] H2 := (Bl.new hD).grow mo_RQ e2
  have nD : tm ≠ D := fun z => by
    obtain ⟨_, g, _⟩ := B2.acc
    rw [z, g] at htm
    cases htm
  refine ⟨tm, rfl, ⟨_, SqT.of htm⟩, ?_⟩
  refine for_seqT hA2 mo_RQ (fun s kv => s ++ ((exps n kv.1.sum.toNat).filter fun v => decide (desc v = kv.1)).map fun v => (v, kv.2)) [] (fun i s σ H3 => ∃ m3 m4 m5, σ = [some (.ref a), some (.int (n : Int)), some (.ref D), m3, m4, m5] ∧ Bl (RQ K) H D s H3 ∧ ExS [D] H2 H3 ∧ s.length ≤ i * 1000) ⟨none, none, none, rfl, B2, .rf, Nat.zero_le _⟩ (fun i s σ H3 h => ?_) (fun i s q y σ H3 hi hy h => ?_) fun σ H3 h => ?_
  · obtain ⟨m3, m4, m5, rfl, hB, hE, _⟩ := h
    exact ⟨SqT.of (hE tm _ (fun z => nD (List.mem_singleton.mp z)) htm), B2.imm hE⟩
  · obtain ⟨m3, m4, m5, rfl, hB, hE, hs⟩ := h
    have hi2 := (List.getElem?_eq_some_iff.mp hi).1
    obtain ⟨s0, s8⟩ := hsz q (List.mem_of_getElem? hi)
    obtain ⟨t, x1, y1, rfl, ht3, r1, r2⟩ := hy
    have le := len_exps n hn q.1.sum.toNat (by omega)
    refine ⟨t, _, rfl, SqT.of ht3, rfl, _, _, rfl, _, _, rfl, rfl, ?_⟩
    refine ⟨_, rfl, Or.inl ⟨rfl, hB.sql⟩, _, rfl, _, rfl, x1, q.1, rfl, r1, n, q.1.sum.toNat, lst2 rfl (vint (by omega)), by omega, by omega, by omega, fun m' h' d' h'' => len_exps m' (by omega) d' (by omega), fun v H4 e4 hv => ?_⟩
    obtain ⟨tp, us4, rfl, htp, hA4⟩ := hv
    have hB4 := hB.grow mo_RQ e4
    refine ⟨tp, rfl, ⟨_, SqT.of htp⟩, fun Lc hLc => ?_⟩
    refine lc_seqT (R := RQ K) (SqT.of htp) hA4 (fun v => if decide (desc v = q.1) = true then some (v, q.2) else none) mo_RT mo_RQ (by omega) (fun j v z H5 C N hj e5 hz c1 c2 => ?_) hLc (fun H5 acc e5 h5 hAc => ?_)
    · have vl : v.length = n := exps_len _ _ _ (List.mem_of_getElem? hj)
      refine ⟨rfl, _, rfl, z, v, rfl, hz, by omega, fun w H6 e6 hw => ?_⟩
      refine ⟨_, rfl, eqP_of hw (mo_RT (.of (e4.tr (e5.tr e6))) r1) fun H7 e7 => ⟨_, rfl, ?_⟩⟩
      by_cases hd : desc v = q.1
      · refine ifT (decide_eq_true hd) ⟨_, rfl, _, rfl, t2, fun p hp => c1 (v, q.2) _ _ (by rw [if_pos (decide_eq_true hd)]) (e6.tr (e7.tr (.nw hp))) ⟨p, _, _, rfl, upd_same, mo_RT ((Imm.of (e6.tr e7)).tr (.nw hp)) hz, mo_RR ((Imm.of (e4.tr (e5.tr (e6.tr e7)))).tr (.nw hp)) r2⟩⟩
      · exact ifF (decide_eq_false hd) (c2 (by rw [if_neg (by rw [decide_eq_false hd]; decide)]) _ (e6.tr e7))
    · have lf := len_fm (fun v => if decide (desc v = q.1) = true then some (v, q.2) else none) (exps n q.1.sum.toNat) 1000 le
      refine nil_of (ext_of mo_RQ (hB4.grow mo_RQ e5) h5 hAc (by omega) fun H6 b6 e6 => ?_)
      rw [fm_filter (fun v => decide (desc v = q.1)) (fun v => (v, q.2))] at b6 lf
      exact ⟨_, _, _, rfl, b6, (hE.tr (e4.tr e5)).trS e6, by rw [List.length_append, Nat.add_mul, Nat.one_mul]; omega⟩
  · obtain ⟨m3, m4, m5, rfl, hB, hE, hs⟩ := h
    rw [fold_flat, List.nil_append] at hB hs
    obtain ⟨us', h1, h2⟩ := hB.acc
    refine ⟨_, rfl, _, rfl, fun y dy hy hdy hne => ?_⟩
    have hyn := upd_none2 (o := HO.own y) hy hne
    have mem : ∀ q ∈ (meaning b M).flatMap (fun kv => ((exps n kv.1.sum.toNat).filter fun v => decide (desc v = kv.1)).map fun v => (v, kv.2)), ∃ d, q.1 ∈ exps n d := fun q hq => by
      obtain ⟨kv, _, h⟩ := List.mem_flatMap.mp hq
      obtain ⟨v, hv, rfl⟩ := List.mem_map.mp h
      exact ⟨_, (List.mem_filter.mp hv).1⟩
    refine ⟨y, dy, n, D, us', _, rfl, upd_same, upd_new hyn (upd_new hdy h1), h2.mo mo_RQ ((Imm.nw hdy).tr (.nw hyn)), by omega, fun q hq => ?_, by omega, ?_, fun H5 e5 h5 => ⟨rfl, hQ _ _ (hB.ex.tr (mk_ex hy hdy e5)) h5⟩⟩
    · obtain ⟨d, hd⟩ := mem q hq
      exact ⟨exps_len _ _ _ hd, exps_nn _ _ _ hd⟩
    · cases n with
      | zero => exact .inr fun q hq => (mem q hq).elim fun d hd => List.eq_nil_of_length_eq_zero (exps_len _ _ _ hd)
      | succ n => exact .inl fun q hq e => (mem q hq).elim fun d hd => Nat.succ_ne_zero n ((exps_len _ _ _ hd).symm.trans (by rw [e]; rfl))
theorem map_int : ∀ {ns ms : List Int}, ns.map V.int = ms.map V.int → ns = ms
  | [], [], _ => rfl
  | [], _ :: _, h => nomatch h
  | _ :: _, [], h => nomatch h
  | n :: ns, m :: ms, h => by
    rw [List.map_cons, List.map_cons] at h
    injection h with h1 h2
    rw [V.int.inj h1, map_int h2]
/-- equality that two the same objects keep -/
def DR (D : Eb) : Eb := fun x y H b => D x y H b ∧ ∃ a c, x = .ref a ∧ y = .ref c ∧ (a = c → b = true)
theorem monB_DR {D : Eb} (m : MonB D) : MonB (DR D) := fun x y H H' b e d => ⟨m x y H H' b e d.1, d.2⟩
theorem eqB_DR {X : Cx} {n : Nat} {D : Eb} (h : RcB X n D) : EqB X n (DR D) := RcB.eqB (fun A pins s σ H x y u v b sb I rx ry d => h A pins s σ H x y u v b sb I rx ry d.1) fun x y H b d => d.2
def DOr (D E : Eb) : Eb := fun x y H b => D x y H b ∨ E x y H b
theorem monB_or {D E : Eb} (m : MonB D) (l : MonB E) : MonB (DOr D E) := fun x y H H' b e d => d.imp (m x y H H' b e) (l x y H H' b e)
theorem eqB_or {X : Cx} {n : Nat} {D E : Eb} (h : EqB X n D) (g : EqB X n E) : EqB X n (DOr D E) := fun A pins s σ H x y u v b sb I rx ry d => d.elim (h A pins s σ H x y u v b sb I rx ry) (g A pins s σ H x y u v b sb I rx ry)
def RRel (K : PySem.W.Frag) : Addr → Addr → Hp → Bool → Prop := fun a c H b => ∃ i j, RR K H (.ref a) i ∧ RR K H (.ref c) j ∧ b = decide (i = j)
abbrev DEl (K : PySem.W.Frag) : Eb := DOr (DR (DTB K DIB)) (DR (DNB (He.ga K "Ratio") (RRel K)))
abbrev DPr (K : PySem.W.Frag) : Eb := DR (DTB K (DEl K))
theorem monB_rat : MonB (DNB (He.ga K "Ratio") (RRel K)) := fun x y H H' b e d => by
  obtain ⟨a, c, dx, dy, fs, gs, h1, h2, h3, h4, i, j, r1, r2, h5⟩ := d
  exact ⟨a, c, dx, dy, fs, gs, h1, h2, e _ _ h3, e _ _ h4, i, j, mo_RR (Imm.of e) r1, mo_RR (Imm.of e) r2, h5⟩
theorem rat_el {H : Hp} {x y : V} {i j : Int} (h1 : RR K H x i) (h2 : RR K H y j) : DEl K x y H (decide (i = j)) := by
  obtain ⟨a, dx, rfl, ha⟩ := id h1
  obtain ⟨c, dy, rfl, hc⟩ := id h2
  refine .inr ⟨⟨a, c, dx, dy, _, _, rfl, rfl, ha, hc, i, j, h1, h2, rfl⟩, a, c, rfl, rfl, fun e => decide_eq_true ?_⟩
  subst e
  rw [ha] at hc
  injection hc with hc
  injection hc with _ _ hc
  injection hc with e1 e2
  injection e2 with e2 _
  injection e1 with _ e1
  injection e2 with _ e2
  injection e1 with e1
  injection e2 with e2
  exact half_inj e1 e2
theorem tup_el {H : Hp} {x y : V} {ns ms : Pt} (h1 : RT H x ns) (h2 : RT H y ms) : DEl K x y H (decide (ns = ms)) := by
  obtain ⟨a, rfl, ha⟩ := h1
  obtain ⟨c, rfl, hc⟩ := h2
  refine .inl ⟨⟨a, c, _, _, rfl, rfl, SqT.of ha, SqT.of hc, prB_ints ns ms⟩, a, c, rfl, rfl, fun e => decide_eq_true ?_⟩
  subst e
  rw [ha] at hc
  injection hc with hc
  injection hc with hc
  exact map_int hc
theorem pr_el {H : Hp} {x y : V} {p q : Pt × Int} (h1 : RQ K H x p) (h2 : RQ K H y q) : DPr K x y H (decide (p = q)) := by
  obtain ⟨a, x1, y1, rfl, ha, r1, r2⟩ := h1
  obtain ⟨c, x2, y2, rfl, hc, s1, s2⟩ := h2
  have d1 := tup_el (K := K) r1 s1
  have d2 := rat_el r2 s2
  have main : PrB (DEl K) H [x1, y1] [x2, y2] (decide (p = q)) := by
    obtain ⟨p1, p2⟩ := p
    obtain ⟨q1, q2⟩ := q
    by_cases e1 : p1 = q1
    · have d1' : DEl K x1 x2 H true := by
        have z : decide (p1 = q1) = true := decide_eq_true e1
        rw [← z]
        exact d1
      by_cases e2 : p2 = q2
      · have d2' : DEl K y1 y2 H true := by
          have z : decide (p2 = q2) = true := decide_eq_true e2
          rw [← z]
          exact d2
        rw [decide_eq_true (by rw [e1, e2])]
        exact .yes d1' (.yes d2' .nil)
      · have d2' : DEl K y1 y2 H false := by
          have z : decide (p2 = q2) = false := decide_eq_false e2
          rw [← z]
          exact d2
        rw [decide_eq_false (fun z => e2 (congrArg Prod.snd z))]
        exact .yes d1' (.no d2')
    · have d1' : DEl K x1 x2 H false := by
        have z : decide (p1 = q1) = false := decide_eq_false e1
        rw [← z]
        exact d1
      rw [decide_eq_false (fun z => e1 (congrArg Prod.fst z))]
      exact .no d1'
  refine ⟨⟨a, c, _, _, rfl, rfl, SqT.of ha, SqT.of hc, main⟩, a, c, rfl, rfl, fun e => ?_⟩
  subst e
  rw [ha] at hc
  injection hc with hc
  injection hc with hc
  injection hc with e1 e2
  injection e2 with e2 _
  subst e1 e2
  obtain ⟨t, rfl, h3⟩ := r1
  obtain ⟨t', e3, h4⟩ := s1
  cases e3
  rw [h3] at h4
  injection h4 with h4
  injection h4 with h4
  have k1 : p.1 = q.1 := map_int h4
  obtain ⟨b, db, rfl, h5⟩ := r2
  obtain ⟨b', db', e5, h6⟩ := s2
  cases e5
  rw [h5] at h6
  injection h6 with hc
  injection hc with _ _ hc
  injection hc with e1 e2
  injection e2 with e2 _
  injection e1 with _ e1
  injection e2 with _ e2
  injection e1 with e1
  injection e2 with e2
  exact decide_eq_true (Prod.ext k1 (half_inj e1 e2))
theorem prB_terms {H : Hp} : ∀ {us vs : List V} {M N : Tb}, All (RQ K) H us M → All (RQ K) H vs N → PrB (DPr K) H us vs (decide (M = N))
  | _, _, _, _, .nil, .nil => .nil
  | _, _, _, _, .nil, .cons a t => .left _ _
  | _, _, _, _, .cons a t, .nil => .right _ _
  | _, _, p :: M, q :: N, .cons a t, .cons b u => by
    have d := pr_el a b
    by_cases h : p = q
    · have z : decide (p :: M = q :: N) = decide (M = N) := by rw [h]; simp
      rw [z]
      rw [decide_eq_true h] at d
      exact .yes d (prB_terms t u)
    · have z : decide (p :: M = q :: N) = false := by simp [h]
      rw [z]
      rw [decide_eq_false h] at d
      exact .no d
theorem eqM_of {H : Hp} {Q : VK} {x y : V} {M N : Tb} (h1 : RTs (RQ K) H x M) (h2 : RTs (RQ K) H y N) (q : ∀ H', Ex H H' → Q (.bl (decide (M = N))) H') : rEqB (DTB K (DPr K)) x y H Q := by
  obtain ⟨a, us, rfl, ha, hA⟩ := h1
  obtain ⟨b, vs, rfl, hb, hB⟩ := h2
  exact ⟨_, ⟨a, b, us, vs, rfl, rfl, SqT.of ha, SqT.of hb, prB_terms hA hB⟩, q⟩
theorem op_eqM {X : Cx} {ps : List Str} (c : CalM X.prog X.w X.K X.mg X.base 1 (He.ga X.K "Ratio") "__eq__" ps [] (spReq X.K)) (hr : Room 3 X.A) : OpR X (compareOp .Eq) (rEqB (DTB X.K (DPr X.K))) := by
  obtain ⟨f, fd, us, h1, h2, h3, h4⟩ := c
  cases h4
  have er : RcB X 1 (DNB (He.ga X.K "Ratio") (RRel X.K)) := rcB_ins h1 h2.at_ h2.fn h3 pass0
  have ei : RcB X 1 (DTB X.K DIB) := rcB_tup monB_int eqB_int
  have e1 : EqB X 1 (DEl X.K) := eqB_or (eqB_DR ei) (eqB_DR er)
  have m1 : MonB (DEl X.K) := monB_or (monB_DR (monB_tup monB_int)) (monB_DR monB_rat)
  have e2 : EqB X 2 (DPr X.K) := eqB_DR (rcB_tup m1 e1)
  have m2 : MonB (DPr X.K) := monB_DR (monB_tup m1)
  exact op_eqB (rcB_tup m2 e2) hr
def spSeq (K : PySem.W.Frag) : Sp := fun vs H Q _ => ∃ (x y : V) (b : SF.B) (M : Tb), vs = [x, y] ∧ RSy K H x (b, M) ∧ ((∃ t xs, y = .ref t ∧ H t = some (.tup xs) ∧ Q (.bl false) H) ∨
  ∃ b2 M2, RSy K H y (b2, M2) ∧ okM b M ∧ okM b2 M2 ∧ ∀ H', Ex H H' → Q (.bl (decide (meaning b M = meaning b2 M2))) H')
theorem sc_Symmetric_eq : FnScope ["self", "other"] ["self", "other"] (defScope (inClass (top 50) 1)) := ⟨rfl, rfl, rfl, by decide +kernel, rfl, by decide +kernel, by decide +kernel⟩
theorem ok_Symmetric_eq (T : Tx K mg) : CalM P w K mg base 15 (He.ga K "Symmetric") "__eq__" ["self", "other"] [] (spSeq K) := by
  have c_meaning_terms := ok_meaning_terms (P := P) (w := w) (base := base) T
  have c_eq := ok_Ratio_eq (P := P) (w := w) (base := base) T
  obtain ⟨fd, F⟩ := T.d 54 _ rfl
  have sc := sc_Symmetric_eq
  refine ⟨_, fd, [], FunD.ok (k := 14) F sc (fun vs H Q E h => by obtain ⟨_, _, _, _, rfl, _⟩ := h; rfl) (fun cdv A outer s H vs Q E hr h => ?_), He.meth_ok (T.a 16 (.meth "Symmetric" "__eq__") rfl), FunD.bindsN F (fun _ _ _ _ _ _ us hl => match us, hl with | [_, _], _ => rfl), .nil⟩
  refine ⟨_, PSs.nox ((pss_cons (ps_if (pt_not (pt_val (pe_callB call_isi (by rfl) (T.f "isinstance" (by decide +kernel)) (by decide +kernel) (pa_cons (pv 1) (pa_cons (pe_cls (T.g "Symmetric" (by decide +kernel))) pa_nil)))))
  (pss_one (ps_ret pe_bl)) pss_nil)
  (pss_one (ps_ret (pe_cmpR (op_eqM c_eq (hr.mono (by decide))) (pe_cg c_meaning_terms (hr.mono (by decide)) (pa_cons (pe_fld (pv 0) rfl) (pa_cons (pe_fld (pv 0) rfl) pa_nil))) (pe_cg c_meaning_terms (hr.mono (by decide)) (pa_cons (pe_fld (pv 1) rfl) (pa_cons (pe_fld (pv 1) rfl) pa_nil))) (nomark _)))))), ?_⟩
  obtain ⟨x, y, b, M, rfl, ⟨a, dx, t, rfl, ha, ⟨tt, us, rfl, ht, hA⟩⟩, h⟩ := h
  rcases h with ⟨t2, xs, rfl, ht2, hQ⟩ | ⟨b2, M2, ⟨a2, dx2, t2, rfl, ha2, ⟨tt2, us2, rfl, ht2, hA2⟩⟩, ⟨o1, o2⟩, ⟨p1, p2⟩, hQ⟩
  · exact ⟨_, rfl, cls_of (isi_own (.base (.tup ht2)) T.tupS ⟨false, rfl, ifT rfl hQ⟩)⟩
  · refine ⟨_, rfl, cls_of (isi_own (ty_own T T.cS T.fS ha2) T.fS.kit ⟨true, rfl, ifF rfl ?_⟩)⟩
    refine ⟨_, rfl, a, _, dx, _, _, rfl, ha, T.cS, T.nSb, rfl, _, rfl, a, _, dx, _, _, rfl, ha, T.cS, T.nSt, rfl, b, tt, us, M, rfl, ht, hA, o1, o2, fun v H2 e2 hv => ?_⟩
    refine ⟨_, rfl, a2, _, dx2, _, _, rfl, e2 _ _ ha2, T.cS, T.nSb, rfl, _, rfl, a2, _, dx2, _, _, rfl, e2 _ _ ha2, T.cS, T.nSt, rfl, b2, tt2, us2, M2, rfl, e2 _ _ ht2, hA2.mo mo_RQ (.of e2), p1, p2, fun v2 H3 e3 hv2 => ?_⟩
    exact eqM_of (mo_RTs mo_RQ (.of e3) hv) hv2 fun H4 e4 => hQ _ (e2.tr (e3.tr e4))
end
end FB
namespace FB
open PySem PySem.Spec PyProof.Rows L2 SF FR
section
variable {P : Program} {w : World} {K : PySem.W.Frag} {mg : Str → Option Value} {base : Heap}
def okVal (M : Tb) : Prop := ∀ q ∈ M, q.2 ≠ 0
/-- each exponent below the one ahead -/
def Down (M : Tb) : Prop := ∀ (i : Nat) (p q : Pt × Int), M[i]? = some p → M[i + 1]? = some q → q.1 < p.1
def DownP (M : Tb) : Prop := ∀ (i : Nat) (p q : Pt × Int), M[i]? = some p → M[i + 1]? = some q → (-q.1.sum < -p.1.sum ∨ (-q.1.sum = -p.1.sum ∧ q.1 < p.1))
def spTable (K : PySem.W.Frag) : Sp := fun vs H Q _ => ∃ (x : V) (n : Int) (M : Tb), vs = [x] ∧ RLt K H x (n, M) ∧ okVal M ∧ Down M ∧ M.length ≤ 50000 ∧ ∀ v H', Ex H H' → NewD RP H H' v (tableOf M) → Q v H'
theorem sc_law_table : FnScope ["_law_polynomial_here", "_law_table_here", "_law_last", "_law_exponent", "_law_c", "_law_pair_here"] ["_law_polynomial_here"] (defScope (top 67)) := ⟨rfl, rfl, rfl, by decide +kernel, rfl, by decide +kernel, by decide +kernel⟩
theorem ok_law_table (T : Tx K mg) : Cal P w K mg base 3 "_law_table" ["_law_polynomial_here"] [] (spTable K) := by
  have c_law_pair := ok_law_pair (P := P) (w := w) (base := base) T
  obtain ⟨fd, F⟩ := T.d 36 _ rfl
  have sc := sc_law_table
  refine ⟨_, fd, [], FunD.ok (k := 2) F sc (fun vs H Q E h => by obtain ⟨_, _, _, rfl, _⟩ := h; rfl) (fun cdv A outer s H vs Q E hr h => ?_), T.g "_law_table" (by decide +kernel), F.kp, FunD.bindsN F (fun _ _ _ _ _ _ us hl => match us, hl with | [_], _ => rfl), .nil⟩
  refine ⟨_, PSs.nox ((pss_cons (ps_if (PW.pt (pw_or (pt_not (pt_val (pe_callB call_isi (by rfl) (T.f "isinstance" (by decide +kernel)) (by decide +kernel) (pa_cons (pv 0) (pa_cons (pe_cls (T.g "Letters" (by decide +kernel))) pa_nil))))) (pw_or1 (pt_not (pt_val (pe_callB call_isi (by rfl) (T.f "isinstance" (by decide +kernel)) (by decide +kernel) (pa_cons (pe_fld (pv 0) rfl) (pa_cons (pe_ty (n := "tuple") (T.f "tuple" (by decide +kernel))) pa_nil))))))))
  (pss_one (ps_ret pe_non)) pss_nil)
  (pss_cons (ps_set (i := 1) sc.nd rfl (Or.inl rfl) pe_dnewT)
  (pss_cons (ps_set (i := 2) sc.nd rfl (Or.inl rfl) pe_non)
  (pss_cons (ps_for PassesOwn.never rfl (pi_tup (pe_fld (pv 0) rfl)) (pg_tup rfl (pgs_cons (pg_name (i := 3) sc.nd rfl (Or.inl rfl)) (pgs_cons (pg_name (i := 4) sc.nd rfl (Or.inl rfl)) pgs_nil)))
  (pss_cons (ps_set (i := 5) sc.nd rfl (Or.inl rfl) (pe_cg c_law_pair (hr.mono (by decide)) (pa_cons (pv 4) pa_nil)))
  (pss_cons (ps_if (PW.pt (pw_or (pt_cmp (pc_isN (pv 5)) rfl) (pw_or (pt_cmpR op_eq (pe_ix ix_tup (pv 5) pe_int (fun _ _ => rfl)) pe_int (nomark _)) (pw_or1 (PW.pt (pw_and (pt_cmp (pc_notN (pv 2)) rfl) (pw_and1 (pt_not (pt_cmpR (op_ltI (hr.mono (by decide))) (pv 3) (pv 2) (nomark _))))))))))
  (pss_one (ps_ret pe_non)) pss_nil)
  (pss_cons (ps_dput (hu_of hr) (pv 1) (pv 3) (pv 5) rfl)
  (pss_one (ps_set (i := 2) sc.nd rfl (Or.inl rfl) (pv 3)))))))
  (pss_one (ps_ret (pv 1)))))))), ?_⟩
  obtain ⟨x, n, M, rfl, ⟨a, dx, t, rfl, ha, ⟨tt, us, rfl, ht, hA⟩⟩, hv, hdn, hl, hQ⟩ := h
  refine ⟨_, rfl, cls_of (isi_own (ty_own T T.cL T.fL ha) T.fL.kit ⟨true, rfl, ifF rfl ?_⟩)⟩
  refine ⟨_, rfl, a, _, dx, _, _, rfl, ha, T.cL, T.nLt, rfl, cls_of (isi_ty (.base (.tup ht)) (by decide +kernel) ⟨true, rfl, ifF rfl ?_⟩)⟩
  refine fun D hD => ?_
  have e0 : Ex H (upd H D (.dT [])) := .nw hD
  refine ⟨_, rfl, a, _, dx, _, _, rfl, e0 _ _ ha, T.cL, T.nLt, rfl, tt, rfl, ⟨_, SqT.of (e0 _ _ ht)⟩, ?_⟩
  refine for_seqT (hA.mo mo_RQ (.of e0)) mo_RQ (fun T kv => SF.put T kv.1 kv.2) [] (fun i T' σ H1 => ∃ lst m3 m4 m5, σ = [some (.ref a), some (.ref D), some lst, m3, m4, m5] ∧ Bd RP [] H D T' H1 ∧ Imm (upd H D (.dT [])) H1 ∧ T'.length ≤ i ∧ (lst = .non ∨ ∃ j p, i = j + 1 ∧ M[j]? = some p ∧ RT H1 lst p.1)) ⟨.non, none, none, none, rfl, .new hD, .rf, Nat.zero_le _, .inl rfl⟩ (fun i T' σ H1 h => ?_) (fun i T' q y σ H1 hi hy h => ?_) fun σ H1 h => ?_
  · obtain ⟨lst, m3, m4, m5, rfl, hB, hI, _⟩ := h
    exact ⟨SqT.of (hB.ex.ex _ _ ht), hI⟩
  · obtain ⟨lst, m3, m4, m5, rfl, hB, hI, hT, hlst⟩ := h
    obtain ⟨t, x1, y1, rfl, ht1, r1, r2⟩ := hy
    have hi2 : i < M.length := (List.getElem?_eq_some_iff.mp hi).1
    have nz := hv q (List.mem_of_getElem? hi)
    refine ⟨t, _, rfl, SqT.of ht1, rfl, _, _, rfl, _, _, rfl, rfl, ?_⟩
    refine ⟨_, rfl, y1, q.2, rfl, r2, fun w H2 e2 hw => ?_⟩
    obtain ⟨tw, rfl, htw⟩ := id hw
    refine ⟨_, rfl, _, rfl, iteF ?_⟩
    refine ⟨_, rfl, tw, _, _, _, rfl, rfl, SqT.of htw, atI_nat (j := 0) rfl, rfl, _, rfl, ifF (by rw [hn_zero]; exact decide_eq_false nz) ?_⟩
    have hB2 := hB.grow mo_RP e2
    have fin : ∃ H3, DPut H2 D x1 (.ref tw) H3 ∧ (∃ lst m3 m4 m5, [some (V.ref a), some (V.ref D), some x1, some x1, some y1, some (V.ref tw)] = [some (.ref a), some (.ref D), some lst, m3, m4, m5] ∧ Bd RP [] H D (SF.put T' q.1 q.2) H3 ∧ Imm (upd H D (.dT [])) H3 ∧ (SF.put T' q.1 q.2).length ≤ i + 1 ∧ (lst = .non ∨ ∃ j p, i + 1 = j + 1 ∧ M[j]? = some p ∧ RT H3 lst p.1)) := by
      obtain ⟨H3, g1, g2, g3⟩ := dt_put mo_RP hB2.tab (by omega) (mo_RT (.of e2) r1) hw
      refine ⟨H3, g1, x1, _, _, _, rfl, hB2.step g2 g3, hI.tr ((Imm.of e2).tr (hB2.imm g2)), ?_, .inr ⟨i, q, rfl, hi, mo_RT ((Imm.of e2).tr (hB2.imm g2)) r1⟩⟩
      have := len_put T' q.1 q.2
      omega
    obtain ⟨H3, g1, g2⟩ := fin
    rcases hlst with rfl | ⟨j, p, rfl, hj, rl⟩
    · refine ⟨_, rfl, _, rfl, iteF (iteF ?_)⟩
      exact ⟨_, rfl, _, rfl, _, rfl, D, H3, rfl, g1, _, rfl, g2⟩
    · have nn : decide (lst = V.non) = false := by
        obtain ⟨tl, rfl, _⟩ := rl
        rfl
      refine ⟨_, rfl, _, rfl, ?_⟩
      rw [nn]
      refine iteT ?_
      obtain ⟨tl, rfl, htl⟩ := mo_RT (.of e2) rl
      obtain ⟨te, rfl, hte⟩ := id (mo_RT (.of e2) r1)
      refine ⟨_, rfl, _, rfl, te, tl, q.1, p.1, rfl, rfl, hte, htl, _, rfl, ?_⟩
      rw [decide_eq_true (hdn j p q hj hi)]
      exact iteF ⟨_, rfl, _, rfl, _, rfl, D, H3, rfl, g1, _, rfl, g2⟩
  · obtain ⟨lst, m3, m4, m5, rfl, hB, _⟩ := h
    exact ⟨_, rfl, hQ _ _ hB.ex.ex hB.newD⟩
def spTerms (K : PySem.W.Frag) : Sp := fun vs H Q _ => ∃ (x : V) (b : SF.B) (M : Tb), vs = [x] ∧ RSy K H x (b, M) ∧ okVal M ∧ DownP M ∧ M.length ≤ 50000 ∧ ∀ v H', Ex H H' → NewD RP H H' v (tableOf M) → Q v H'
theorem sc_law_terms : FnScope ["_law_f", "_law_table_here", "_law_last", "_law_part", "_law_c", "_law_pair_here", "_law_key"] ["_law_f"] (defScope (top 76)) := ⟨rfl, rfl, rfl, by decide +kernel, rfl, by decide +kernel, by decide +kernel⟩
theorem ok_law_terms (T : Tx K mg) : Cal P w K mg base 3 "_law_terms" ["_law_f"] [] (spTerms K) := by
  have c_law_pair := ok_law_pair (P := P) (w := w) (base := base) T
  obtain ⟨fd, F⟩ := T.d 45 _ rfl
  have sc := sc_law_terms
  refine ⟨_, fd, [], FunD.ok (k := 2) F sc (fun vs H Q E h => by obtain ⟨_, _, _, rfl, _⟩ := h; rfl) (fun cdv A outer s H vs Q E hr h => ?_), T.g "_law_terms" (by decide +kernel), F.kp, FunD.bindsN F (fun _ _ _ _ _ _ us hl => match us, hl with | [_], _ => rfl), .nil⟩
  refine ⟨_, PSs.nox ((pss_cons (ps_if (PW.pt (pw_or (pt_not (pt_val (pe_callB call_isi (by rfl) (T.f "isinstance" (by decide +kernel)) (by decide +kernel) (pa_cons (pv 0) (pa_cons (pe_cls (T.g "Symmetric" (by decide +kernel))) pa_nil))))) (pw_or1 (pt_not (pt_val (pe_callB call_isi (by rfl) (T.f "isinstance" (by decide +kernel)) (by decide +kernel) (pa_cons (pe_fld (pv 0) rfl) (pa_cons (pe_ty (n := "tuple") (T.f "tuple" (by decide +kernel))) pa_nil))))))))
  (pss_one (ps_ret pe_non)) pss_nil)
  (pss_cons (ps_set (i := 1) sc.nd rfl (Or.inl rfl) pe_dnewT)
  (pss_cons (ps_set (i := 2) sc.nd rfl (Or.inl rfl) pe_non)
  (pss_cons (ps_for PassesOwn.never rfl (pi_tup (pe_fld (pv 0) rfl)) (pg_tup rfl (pgs_cons (pg_name (i := 3) sc.nd rfl (Or.inl rfl)) (pgs_cons (pg_name (i := 4) sc.nd rfl (Or.inl rfl)) pgs_nil)))
  (pss_cons (ps_set (i := 5) sc.nd rfl (Or.inl rfl) (pe_cg c_law_pair (hr.mono (by decide)) (pa_cons (pv 4) pa_nil)))
  (pss_cons (ps_set (i := 6) sc.nd rfl (Or.inl rfl) (pe_tup (pa_cons (pe_un un_neg (pe_callB (cr_sumU rfl) (by rfl) (T.f "sum" (by decide +kernel)) (by decide +kernel) (pa_cons (pv 3) pa_nil))) (pa_cons (pv 3) pa_nil))))
  (pss_cons (ps_if (PW.pt (pw_or (pt_cmp (pc_isN (pv 5)) rfl) (pw_or (pt_cmpR op_eq (pe_ix ix_tup (pv 5) pe_int (fun _ _ => rfl)) pe_int (nomark _)) (pw_or1 (PW.pt (pw_and (pt_cmp (pc_notN (pv 2)) rfl) (pw_and1 (pt_not (pt_cmpR (op_ltK (hr.mono (by decide))) (pv 6) (pv 2) (nomark _))))))))))
  (pss_one (ps_ret pe_non)) pss_nil)
  (pss_cons (ps_dput (hu_of hr) (pv 1) (pv 3) (pv 5) rfl)
  (pss_one (ps_set (i := 2) sc.nd rfl (Or.inl rfl) (pv 6))))))))
  (pss_one (ps_ret (pv 1)))))))), ?_⟩
  obtain ⟨x, n, M, rfl, ⟨a, dx, t, rfl, ha, ⟨tt, us, rfl, ht, hA⟩⟩, hv, hdn, hl, hQ⟩ := h
  refine ⟨_, rfl, cls_of (isi_own (ty_own T T.cS T.fS ha) T.fS.kit ⟨true, rfl, ifF rfl ?_⟩)⟩
  refine ⟨_, rfl, a, _, dx, _, _, rfl, ha, T.cS, T.nSt, rfl, cls_of (isi_ty (.base (.tup ht)) (by decide +kernel) ⟨true, rfl, ifF rfl ?_⟩)⟩
  refine fun D hD => ?_
  have e0 : Ex H (upd H D (.dT [])) := .nw hD
  refine ⟨_, rfl, a, _, dx, _, _, rfl, e0 _ _ ha, T.cS, T.nSt, rfl, tt, rfl, ⟨_, SqT.of (e0 _ _ ht)⟩, ?_⟩
  refine for_seqT (hA.mo mo_RQ (.of e0)) mo_RQ (fun T kv => SF.put T kv.1 kv.2) [] (fun i T' σ H1 => ∃ lst m3 m4 m5 m6, σ = [some (.ref a), some (.ref D), some lst, m3, m4, m5, m6] ∧ Bd RP [] H D T' H1 ∧ Imm (upd H D (.dT [])) H1 ∧ T'.length ≤ i ∧ (lst = .non ∨ ∃ j p tk tp, i = j + 1 ∧ M[j]? = some p ∧ lst = .ref tk ∧ H1 tk = some (.tup [.int (-p.1.sum), .ref tp]) ∧ H1 tp = some (.tup (p.1.map V.int)))) ⟨.non, none, none, none, none, rfl, .new hD, .rf, Nat.zero_le _, .inl rfl⟩ (fun i T' σ H1 h => ?_) (fun i T' q y σ H1 hi hy h => ?_) fun σ H1 h => ?_
  · obtain ⟨lst, m3, m4, m5, m6, rfl, hB, hI, _⟩ := h
    exact ⟨SqT.of (hB.ex.ex _ _ ht), hI⟩
  · obtain ⟨lst, m3, m4, m5, m6, rfl, hB, hI, hT, hlst⟩ := h
    obtain ⟨t, x1, y1, rfl, ht1, ⟨t1, rfl, h1⟩, r2⟩ := hy
    have hi2 : i < M.length := (List.getElem?_eq_some_iff.mp hi).1
    have nz := hv q (List.mem_of_getElem? hi)
    refine ⟨t, _, rfl, SqT.of ht1, rfl, _, _, rfl, _, _, rfl, rfl, ?_⟩
    refine ⟨_, rfl, y1, q.2, rfl, r2, fun w H2 e2 hw => ?_⟩
    obtain ⟨tw, rfl, htw⟩ := id hw
    refine ⟨_, rfl, t1, q.1, rfl, SqT.of (e2 _ _ h1), _, rfl, _, rfl, t2, fun tk htk => ?_⟩
    have ek : Ex H2 (upd H2 tk (.tup [.int (-q.1.sum), .ref t1])) := .nw htk
    have e3 := e2.tr ek
    refine ⟨_, rfl, _, rfl, iteF ?_⟩
    refine ⟨_, rfl, tw, _, _, _, rfl, rfl, SqT.of (ek _ _ htw), atI_nat (j := 0) rfl, rfl, _, rfl, ifF (by rw [hn_zero]; exact decide_eq_false nz) ?_⟩
    have hB2 := hB.grow mo_RP e3
    have fin : ∃ H3, DPut (upd H2 tk (.tup [.int (-q.1.sum), .ref t1])) D (.ref t1) (.ref tw) H3 ∧ (∃ lst m3 m4 m5 m6, [some (V.ref a), some (V.ref D), some (V.ref tk), some (V.ref t1), some y1, some (V.ref tw), some (V.ref tk)] = [some (.ref a), some (.ref D), some lst, m3, m4, m5, m6] ∧ Bd RP [] H D (SF.put T' q.1 q.2) H3 ∧ Imm (upd H D (.dT [])) H3 ∧ (SF.put T' q.1 q.2).length ≤ i + 1 ∧ (lst = .non ∨ ∃ j p tk tp, i + 1 = j + 1 ∧ M[j]? = some p ∧ lst = .ref tk ∧ H3 tk = some (.tup [.int (-p.1.sum), .ref tp]) ∧ H3 tp = some (.tup (p.1.map V.int)))) := by
      obtain ⟨H3, g1, g2, g3⟩ := dt_put mo_RP hB2.tab (by omega) ⟨t1, rfl, e3 _ _ h1⟩ (mo_RP (.of ek) hw)
      have im3 := hB2.imm g2
      refine ⟨H3, g1, .ref tk, _, _, _, _, rfl, hB2.step g2 g3, hI.tr ((Imm.of e3).tr im3), ?_, .inr ⟨i, q, tk, t1, rfl, hi, rfl, im3.tup _ _ upd_same, im3.tup _ _ (e3 _ _ h1)⟩⟩
      have := len_put T' q.1 q.2
      omega
    obtain ⟨H3, g1, g2⟩ := fin
    rcases hlst with rfl | ⟨j, p, tl, tp, rfl, hj, rfl, hk1, hk2⟩
    · refine ⟨_, rfl, _, rfl, iteF (iteF ?_)⟩
      exact ⟨_, rfl, _, rfl, _, rfl, D, H3, rfl, g1, _, rfl, g2⟩
    · refine ⟨_, rfl, _, rfl, iteT ?_⟩
      refine ⟨_, rfl, _, rfl, tk, tl, t1, tp, _, _, q.1, p.1, rfl, rfl, upd_same, e3 _ _ hk1, e3 _ _ h1, e3 _ _ hk2, _, rfl, ?_⟩
      rw [decide_eq_true (hdn j p q hj hi)]
      exact iteF ⟨_, rfl, _, rfl, _, rfl, D, H3, rfl, g1, _, rfl, g2⟩
  · obtain ⟨lst, m3, m4, m5, m6, rfl, hB, _⟩ := h
    exact ⟨_, rfl, hQ _ _ hB.ex.ex hB.newD⟩
end
end FB
namespace FB
open PySem PySem.Spec PyProof.Rows L2 SF FR
section
variable {P : Program} {w : World} {K : PySem.W.Frag} {mg : Str → Option Value} {base : Heap}
theorem sp_mem {p : Pt} (h : p ∈ smallParts) : p.length ≤ 4 ∧ (∀ y ∈ p, 0 ≤ y ∧ y ≤ 4) := by
  have z : ∀ p ∈ smallParts, p.length ≤ 4 ∧ ∀ y ∈ p, 0 ≤ y ∧ y ≤ 4 := by decide +kernel
  exact z p h
def spInner : Sp := fun vs H Q _ => ∃ (x : V) (p : Pt), vs = [x] ∧ RT H x p ∧ p.length ≤ 4 ∧ (∀ y ∈ p, 0 ≤ y ∧ y ≤ 4) ∧ ∀ v H', Ex H H' → NewL RT H H' v (inner p) → Q v H'
theorem fm_range {α : Type} (f : Nat → α) (n : Nat) : (List.range n).filterMap (fun i => some (f i)) = (List.range n).map f := fm_map f _
theorem range_len (lo hi : Int) : (rangeI lo hi).length = (hi - lo).toNat := by unfold rangeI; rw [List.length_map, List.length_range]
theorem sc_law_inner : FnScope ["_law_part", "_law_found", "_law_k", "_law_low", "_law_longer", "_law_head", "_law_item_here"] ["_law_part"] (defScope (top 71)) := ⟨rfl, rfl, rfl, by decide +kernel, rfl, by decide +kernel, by decide +kernel⟩
theorem ok_law_inner (T : Tx K mg) : Cal P w K mg base 1 "_law_inner" ["_law_part"] [] (spInner) := by
  obtain ⟨fd, F⟩ := T.d 40 _ rfl
  have sc := sc_law_inner
  refine ⟨_, fd, [], FunD.ok (k := 0) F sc (fun vs H Q E h => by obtain ⟨_, _, rfl, _⟩ := h; rfl) (fun cdv A outer s H vs Q E hr h => ?_), T.g "_law_inner" (by decide +kernel), F.kp, FunD.bindsN F (fun _ _ _ _ _ _ us hl => match us, hl with | [_], _ => rfl), .nil⟩
  refine ⟨_, PSs.nox ((pss_cons (ps_set (i := 1) sc.nd rfl (Or.inl rfl) (pe_lst (pa_cons (pe_tup pa_nil) pa_nil)))
  (pss_cons (ps_for PassesOwn.never rfl (pi_range1 rfl (T.f "range" (by decide +kernel)) (pa_cons (pe_callB call_len_seq (by rfl) (T.f "len" (by decide +kernel)) (by decide +kernel) (pa_cons (pv 0) pa_nil)) pa_nil)) (pg_name (i := 2) sc.nd rfl (Or.inl rfl))
  (pss_cons (ps_set (i := 3) sc.nd rfl (Or.inl rfl) (pe_ifExp (pt_cmpR op_lt (pe_op op_add (pv 2) pe_int) (pe_callB call_len_seq (by rfl) (T.f "len" (by decide +kernel)) (by decide +kernel) (pa_cons (pv 0) pa_nil)) (nomark _)) (pe_ix ix_tup (pv 0) (pe_op op_add (pv 2) pe_int) (fun _ _ => rfl)) pe_int))
  (pss_cons (ps_set (i := 4) sc.nd rfl (Or.inl rfl) (pe_lst pa_nil))
  (pss_cons (ps_for PassesOwn.never rfl (pi_list (pv 1)) (pg_name (i := 5) sc.nd rfl (Or.inr rfl))
  (pss_one (ps_expr (pe_bm PySem.F.plainAttrs_list PySem.F.slot_list_extend PySem.F.type_list_extend mt_extend (pv 4) (pa_cons (pe_lc (own := [("_law_item_here", 6)]) rfl sc.nd (pi_range2 rfl (T.f "range" (by decide +kernel)) (pa_cons (pv 3) (pa_cons (pe_op op_add (pe_ix ix_tup (pv 0) (pv 2) (fun _ _ => rfl)) pe_int) pa_nil))) (blkOk_by (N := ["_law_part", "_law_found", "_law_k", "_law_low", "_law_longer", "_law_head", "_law_item_here"]) (sc := defScope (top 71)) (by decide +kernel)) (fun _ _ _ _ _ => (pg_name (i := 6) sc.nd rfl (Or.inl rfl))) (fun _ _ _ _ _ => pts_nil) (fun _ _ _ _ _ => (pe_op (op_catK (K := K)) (pv 5) (pe_tup (pa_cons (pv 6) pa_nil))))) pa_nil)))))
  (pss_one (ps_set (i := 1) sc.nd rfl (Or.inl rfl) (pe_callTy call_list_of (by rfl) (T.f "list" (by decide +kernel)) (by decide +kernel) (pa_cons (pv 4) pa_nil))))))))
  (pss_one (ps_ret (pe_lc (own := [("_law_head", 5)]) rfl sc.nd (pi_list (pv 1)) (blkOk_by (N := ["_law_part", "_law_found", "_law_k", "_law_low", "_law_longer", "_law_head", "_law_item_here"]) (sc := defScope (top 71)) (by decide +kernel)) (fun _ _ _ _ _ => (pg_name (i := 5) sc.nd rfl (Or.inl rfl))) (fun _ _ _ _ _ => pts_nil) (fun _ _ _ _ _ => (pe_callTy (tupOf_K (K := K)) (by rfl) (T.f "tuple" (by decide +kernel)) (by decide +kernel) (pa_cons (pe_lc (own := [("_law_item_here", 6)]) rfl sc.nd (pi_tupK (K := K) (pv 5)) (blkOk_by (N := ["_law_part", "_law_found", "_law_k", "_law_low", "_law_longer", "_law_head", "_law_item_here"]) (sc := ({ kind := .function, names := [(".0", .local), ("_law_head", .local), ("tuple", .globalImplicit)], isGenerator := false, isCoroutine := false } : Scope)) (by decide +kernel)) (fun _ _ _ _ _ => (pg_name (i := 6) sc.nd rfl (Or.inl rfl))) (fun _ _ _ _ _ => (pts_one (pt_cmpR op_gt (pv 6) pe_int (nomark _)))) (fun _ _ _ _ _ => (pv 6))) pa_nil))))))))), ?_⟩
  obtain ⟨x, p, rfl, ⟨tp, rfl, htp⟩, hl, hp, hQ⟩ := h
  refine ⟨t0, fun q0 hq0 => ⟨t1, fun l0 hl0 => ?_⟩⟩
  have e0 : Ex H (upd (upd H q0 (.tup [])) l0 (.lst [.ref q0])) := (Ex.nw hq0).tr (.nw hl0)
  have q0l : q0 ≠ l0 := fun z => by rw [← z, upd_same] at hl0; cases hl0
  refine ⟨_, rfl, tp, _, rfl, .inr (SqT.of (e0 _ _ htp)), _, rfl, by rw [List.length_map]; omega, by rw [List.length_map]; omega, ?_⟩
  rw [List.length_map, Int.toNat_natCast]
  refine for_range (lo := 0) (n := p.length) (fun i σ H1 => ∃ l us s m2 m3 m4 m5 m6, σ = [some (.ref tp), some (.ref l), m2, m3, m4, m5, m6] ∧ Ex H H1 ∧ H l = none ∧ H1 l = some (.lst us) ∧ All RT H1 us s ∧ innerGo (p.drop i) s = innerGo p [[]] ∧ s.length ≤ 5 ^ i ∧ ∀ r ∈ s, r.length ≤ i) ⟨l0, _, [[]], none, none, none, none, none, rfl, e0, (Ex.nw hq0).fr hl0, upd_same, .cons ⟨q0, rfl, by rw [upd_ne q0l, upd_same]; rfl⟩ .nil, rfl, by decide, fun r hr => by rw [List.mem_singleton.mp hr]; exact Nat.le_refl _⟩ (fun i σ H1 hi hh => ?_) fun σ H1 hh => ?_
  · obtain ⟨l, us, s, m2, m3, m4, m5, m6, rfl, hE, hln, hl1, hA, hgo, hs, hr⟩ := hh
    have htp1 := hE _ _ htp
    have hpi := hp p[i] (List.getElem_mem hi)
    have dr : p.drop i = p[i] :: p.drop (i + 1) := List.drop_eq_getElem_cons hi
    rw [dr] at hgo
    have hlow : 0 ≤ (p.drop (i + 1)).headD 0 ∧ (p.drop (i + 1)).headD 0 ≤ 4 := by
      cases e : p.drop (i + 1) with
      | nil => exact ⟨by decide, by decide⟩
      | cons y r => exact hp y (List.mem_of_mem_drop (by rw [e]; exact List.mem_cons_self ..))
    have s625 : s.length ≤ 625 := Nat.le_trans hs (Nat.le_trans (Nat.pow_le_pow_right (by omega) (by omega)) (by decide : 5 ^ 4 ≤ 625))
    have rlen : (rangeI ((p.drop (i + 1)).headD 0) (p[i] + 1)).length ≤ 5 := by rw [range_len]; omega
    have e1 : ((0 : Int) + (i : Int)) + 1 = ((i + 1 : Nat) : Int) := by omega
    have at1 : atI (p.map V.int) (0 + (i : Int)) = some (V.int p[i]) := by rw [Int.zero_add]; exact atI_nat (by rw [List.getElem?_map, List.getElem?_eq_getElem hi]; rfl)
    have low : ∀ {Q : VK} {H1 : Hp}, H1 tp = some (.tup (p.map V.int)) → Q (.int ((p.drop (i + 1)).headD 0)) H1 → tIf (tTest (tOp (rI0 fun i j => V.bl (decide (i < j))) (tOp (rI0 fun i j => V.int (i + j)) (tVar 2) (tC (.int 1))) (tCB (fun xs H Q => ∃ p ys, xs = [.ref p] ∧ (SqL K H p ys ∨ SqT K H p ys) ∧ Q (.int ys.length) H) (tCons (tVar 0) tNil)))) (tOp (rIxT K) (tVar 0) (tOp (rI0 fun i j => V.int (i + j)) (tVar 2) (tC (.int 1)))) (tC (.int 0)) ([some (V.ref tp), some (.ref l), m2, m3, m4, m5, m6].set 2 (some (.int (0 + (i : Int))))) H1 Q := by
      intro Q H1 h1 q
      refine ⟨_, rfl, _, _, rfl, rfl, _, rfl, tp, _, rfl, .inr (SqT.of h1), _, _, rfl, rfl, _, rfl, ?_⟩
      rw [List.length_map]
      by_cases c : i + 1 < p.length
      · refine ifT (decide_eq_true (by omega)) ⟨_, rfl, _, rfl, _, _, rfl, rfl, tp, _, _, _, rfl, rfl, SqT.of h1, ?_, q⟩
        rw [e1]
        refine atI_nat ?_
        rw [List.getElem?_map, List.getElem?_eq_getElem c, List.drop_eq_getElem_cons c]
        rfl
      · refine ifF (decide_eq_false (by omega)) ?_
        have e : p.drop (i + 1) = [] := List.drop_eq_nil_of_le (by omega)
        rw [e] at q
        exact q
    refine low htp1 ⟨t0, fun D hD => ?_⟩
    have hl2 : upd H1 D (.lst []) l = some (.lst us) := upd_new hD hl1
    have lD : l ≠ D := ne_of_none hl1 hD
    refine ⟨_, rfl, l, rfl, ⟨_, SqL.of hl2⟩, ?_⟩
    refine for_seqL (hA.mo mo_RT (.nw hD)) mo_RT (fun acc hd => acc ++ (rangeI ((p.drop (i + 1)).headD 0) (p[i] + 1)).map fun i => hd ++ [i]) [] (fun j acc σ H3 => ∃ m5 m6, σ = [some (.ref tp), some (.ref l), some (.int (0 + (i : Int))), some (.int ((p.drop (i + 1)).headD 0)), some (.ref D), m5, m6] ∧ Bl RT H1 D acc H3 ∧ ExS [D] (upd H1 D (.lst [])) H3 ∧ acc.length ≤ j * 5) ⟨m5, m6, rfl, .new hD, .rf, Nat.zero_le _⟩ (fun j acc σ H3 h => ?_) (fun j acc r x5 σ H3 hj hx5 h => ?_) fun σ H3 h => ?_
    · obtain ⟨m5, m6, rfl, hB, hES, _⟩ := h
      exact ⟨SqL.of (hES l _ (fun z => lD (List.mem_singleton.mp z)) hl2), (Bl.new (R := RT) hD).imm hES⟩
    · obtain ⟨m5, m6, rfl, hB, hES, hac⟩ := h
      have hj2 := (List.getElem?_eq_some_iff.mp hj).1
      have rr := hr r (List.mem_of_getElem? hj)
      refine ⟨_, rfl, Or.inl ⟨rfl, hB.sql⟩, _, rfl, _, rfl, _, rfl, tp, _, _, _, rfl, rfl, SqT.of (hB.ex _ _ htp1), at1, _, _, rfl, rfl, _, _, rfl, ⟨by omega, by omega, by omega, by omega⟩, fun Lc hLc => ?_⟩
      refine lc_rng (R := RT) (lo := (p.drop (i + 1)).headD 0) (n := (p[i] + 1 - (p.drop (i + 1)).headD 0).toNat) (fun k => some (r ++ [(p.drop (i + 1)).headD 0 + (k : Int)])) mo_RT (by omega) (fun k H4 C N hk e4 c1 c2 => ?_) hLc (fun H4 acc2 e4 h4 hAc => ?_)
      · exact ⟨rfl, yes_of (iteT ⟨_, rfl, _, rfl, t1, fun q hq => cat_of (mo_RT ((Imm.of e4).tr (.nw hq)) hx5) (RT.mk (xs := [_]) upd_same) (by show r.length + 1 ≤ _; omega) fun v H5 e5 r5 => c1 _ _ _ rfl ((Ex.nw hq).tr e5) r5⟩)⟩
      · rw [fm_range] at hAc
        have em : (List.range (p[i] + 1 - (p.drop (i + 1)).headD 0).toNat).map (fun (k : Nat) => r ++ [(p.drop (i + 1)).headD 0 + (k : Int)]) = (rangeI ((p.drop (i + 1)).headD 0) (p[i] + 1)).map fun i => r ++ [i] := by
          unfold rangeI
          rw [List.map_map]
          rfl
        rw [em] at hAc
        refine nil_of (ext_of mo_RT (hB.grow mo_RT e4) h4 hAc (by rw [List.length_map]; omega) fun H6 b6 e6 => ⟨_, _, rfl, b6, (hES.tr e4).trS e6, by rw [List.length_append, List.length_map]; omega⟩)
    · obtain ⟨m5, m6, rfl, hB, hES, hac⟩ := h
      rw [fold_flat, List.nil_append] at hB hac
      obtain ⟨us4, h1, h2⟩ := hB.acc
      refine ⟨_, rfl, D, us4, rfl, .inl (SqL.of h1), fun l2 hl2 => ?_⟩
      refine ⟨l2, us4, _, _, _, _, _, _, rfl, hE.tr (hB.ex.tr (.nw hl2)), (hE.tr hB.ex).fr hl2, upd_same, h2.mo mo_RT (.nw hl2), hgo, ?_, fun r hr' => ?_⟩
      · rw [Nat.pow_succ]
        omega
      · obtain ⟨r0, hr0, hm⟩ := List.mem_flatMap.mp hr'
        obtain ⟨y, _, rfl⟩ := List.mem_map.mp hm
        have := hr r0 hr0
        rw [List.length_append]
        show r0.length + 1 ≤ _
        omega
  · obtain ⟨l, us, s, m2, m3, m4, m5, m6, rfl, hE, hln, hl1, hA, hgo, hs, hr⟩ := hh
    have s625 : s.length ≤ 625 := Nat.le_trans hs (Nat.le_trans (Nat.pow_le_pow_right (by omega) (by omega)) (by decide : 5 ^ 4 ≤ 625))
    have ed : p.drop p.length = [] := List.drop_eq_nil_of_le (Nat.le_refl _)
    rw [ed] at hgo
    have es : s = innerGo p [[]] := hgo
    refine ⟨_, rfl, l, rfl, ⟨_, SqL.of hl1⟩, fun L hL => ?_⟩
    refine lc_seqL (R := RT) (SqL.of hl1) hA (fun r => some (pos r)) mo_RT mo_RT (by omega) (fun j r x H3 C N hj e3 hx c1 c2 => ?_) hL (fun H3 acc e3 h3 hAc => ?_)
    · obtain ⟨t, rfl, ht⟩ := id hx
      have rr := hr r (List.mem_of_getElem? hj)
      refine ⟨rfl, yes_of (iteT ⟨_, rfl, t, rfl, ⟨_, SqT.of ht⟩, fun D2 hD2 => ?_⟩)⟩
      refine lc_seqT (R := RI) (SqT.of ht) (all_ints H3 r) (fun x => if 0 < x then some x else none) mo_RI mo_RI (by omega) (fun i d y H4 C2 N2 hd e4 hy c3 c4 => ?_) hD2 (fun H4 acc2 e4 h4 hA4 => ?_)
      · have hy' : y = .int d := hy
        subst hy'
        refine ⟨rfl, _, rfl, _, _, rfl, rfl, _, rfl, ?_⟩
        by_cases hp : 0 < d
        · exact ifT (decide_eq_true hp) ⟨_, rfl, c3 d _ _ (if_pos hp) .rf rfl⟩
        · exact ifF (decide_eq_false hp) (c4 (if_neg hp) _ .rf)
      · rw [fm_pos] at hA4
        have ea := all_RI hA4
        exact ⟨D2, _, rfl, .inl ⟨SqL.of h4, fun l5 hl5 => c1 _ _ _ rfl (e4.tr (.nw hl5)) ⟨l5, rfl, by rw [upd_same, ea]⟩⟩⟩
    · rw [fm_map pos, es] at hAc
      exact hQ _ _ (hE.tr e3) ⟨L, _, rfl, hE.fr hL, h3, hAc⟩
end
end FB
namespace FB
open PySem PySem.Spec PyProof.Rows L2 SF FR
section
variable {P : Program} {w : World} {K : PySem.W.Frag} {mg : Str → Option Value} {base : Heap}
theorem inner_sp : ∀ p ∈ smallParts, (inner p).length ≤ 100 ∧ ∀ l ∈ inner p, l ∈ smallParts := by decide +kernel
def stripOk (n : Nat) (p : Pt) : Bool := decide ((strip n p).length ≤ 100) && (decide (((strip n p).map (·.1)).Nodup) && (strip n p).all fun q => decide (q.1.length = n))
theorem strip_sp : ∀ n, n ≤ 4 → ∀ p ∈ smallParts, stripOk n p = true := by decide +kernel
def spStripSum (n : Nat) : Sp := fun vs H Q _ => ∃ (m : Nat) (x : V) (p : Pt), vs = [.int (m : Int), x] ∧ m < n ∧ m ≤ 4 ∧ RT H x p ∧ p ∈ smallParts ∧ ∀ v H', Ex H H' → NewD RP H H' v (strip m p) → Q v H'
theorem hn2 : hn 2 = 1 := rfl
theorem hd2 : hd 2 = 1 := rfl
theorem NewD.of {α : Type} {R : Rv α} {H H1 H' : Hp} {v : V} {T : List (Pt × α)} (h : NewD R H1 H' v T) (e : Ex H H1) : NewD R H H' v T := by
  obtain ⟨d, h1, h2, h3⟩ := h
  exact ⟨d, h1, e.fr h2, h3⟩
theorem sc_law_strip_sum : FnScope ["_law_n", "_law_part", "_law_total", "_law_less", "_law_smaller", "_law_v"] ["_law_n", "_law_part"] (defScope (top 70)) := ⟨rfl, rfl, rfl, by decide +kernel, rfl, by decide +kernel, by decide +kernel⟩
theorem ok_law_strip_sum (T : Tx K mg) (n : Nat) : Cal P w K mg base (n + 4) "_law_strip_sum" ["_law_n", "_law_part"] [] (spStripSum n) := by
  have c_law_plus := ok_law_plus (P := P) (w := w) (base := base) T
  have c_law_inner := ok_law_inner (P := P) (w := w) (base := base) T
  obtain ⟨fd, F⟩ := T.d 39 _ rfl
  have sc := sc_law_strip_sum
  have bd : Binds K fd ["_law_n", "_law_part"] [] := FunD.bindsN F (fun _ _ _ _ _ _ us hl => match us, hl with | [_, _], _ => rfl)
  refine ⟨_, fd, [], ?_, T.g "_law_strip_sum" (by decide +kernel), F.kp, bd, .nil⟩
  induction n with
  | zero => exact FnOk.vac fun vs H Q E h => by obtain ⟨_, _, _, _, h, _⟩ := h; exact absurd h (Nat.not_lt_zero _)
  | succ n ih =>
    have c_rec : Cal P w K mg base (n + 4) "_law_strip_sum" ["_law_n", "_law_part"] [] (spStripSum n) := ⟨_, fd, [], ih, T.g "_law_strip_sum" (by decide +kernel), F.kp, bd, .nil⟩
    rw [show n + 1 + 4 = (n + 4) + 1 by omega]
    refine FunD.ok (k := n + 4) F sc (fun vs H Q E h => by obtain ⟨_, _, _, rfl, _⟩ := h; rfl) (fun cdv A outer s H vs Q E hr h => ⟨_, PSs.nox ((pss_cons (ps_if (pt_cmpR op_eq (pv 0) pe_int (nomark _))
  (pss_one (ps_ret (pe_ifExp (pt_cmpR op_eq (pe_callB call_len_seq (by rfl) (T.f "len" (by decide +kernel)) (by decide +kernel) (pa_cons (pv 1) pa_nil)) pe_int (nomark _)) (pe_disp1 hr.units0 (pe_tup pa_nil) (pe_tup (pa_cons pe_int (pa_cons pe_int pa_nil)))) pe_dnewT))) pss_nil)
  (pss_cons (ps_set (i := 2) sc.nd rfl (Or.inl rfl) pe_dnewT)
  (pss_cons (ps_for PassesOwn.never rfl (pi_list (pe_cg c_law_inner (hr.mono (by omega)) (pa_cons (pv 1) pa_nil))) (pg_name (i := 3) sc.nd rfl (Or.inl rfl))
  (pss_cons (ps_set (i := 4) sc.nd rfl (Or.inl rfl) (pe_cg c_rec hr (pa_cons (pe_op op_sub (pv 0) pe_int) (pa_cons (pv 3) pa_nil))))
  (pss_one (ps_lock (ps_for PassesOwn.never rfl (pi_keys (pv 4)) (pg_name (i := 5) sc.nd rfl (Or.inl rfl))
  (pss_one (ps_expr (pe_cg c_law_plus (hr.mono (by omega)) (pa_cons (pv 2) (pa_cons (pe_op op_catA (pv 5) (pe_tup (pa_cons (pe_op op_sub (pe_callB (cr_sumU rfl) (by rfl) (T.f "sum" (by decide +kernel)) (by decide +kernel) (pa_cons (pv 1) pa_nil)) (pe_callB (cr_sumU rfl) (by rfl) (T.f "sum" (by decide +kernel)) (by decide +kernel) (pa_cons (pv 3) pa_nil))) pa_nil))) (pa_cons (pe_dget (hu_of hr) (pv 4) (pv 5) (fun _ _ => rfl)) pa_nil)))))))))))
  (pss_one (ps_ret (pv 2))))))), ?_⟩)
    obtain ⟨m, x, p, rfl, hn, hm, ⟨tp, rfl, htp⟩, hps, hQ⟩ := h
    refine ⟨_, rfl, rfl, _, rfl, ?_⟩
    cases m with
    | zero =>
      refine iteT ⟨_, rfl, tp, _, rfl, .inr (SqT.of htp), rfl, _, rfl, ?_⟩
      rw [List.length_map]
      have es : strip 0 p = if p.length = 0 then [([], 2)] else [] := rfl
      rw [es] at hQ
      by_cases hp : p.length = 0
      · rw [if_pos hp] at hQ
        refine ifT (eqI_t (by omega)) fun d hd => ⟨t0, fun k hk => ⟨t2, fun u hu => ?_⟩⟩
        have kd : d ≠ k := fun z => by rw [← z, upd_same] at hk; cases hk
        have ud : d ≠ u := fun z => by rw [← z, upd_ne kd, upd_same] at hu; cases hu
        have ku : k ≠ u := fun z => by rw [← z, upd_same] at hu; cases hu
        refine ⟨by rw [upd_ne ud, upd_ne kd, upd_same], k, [], rfl, .inl ⟨by rw [upd_ne ku, upd_same]; rfl, ?_⟩⟩
        refine hQ _ _ (((((Ex.nw hd).tr (.nw hk)).tr (.nw hu))).mt hd) ⟨d, rfl, hd, _, upd_same, .cons ⟨rfl, u, rfl, ?_⟩ .nil⟩
        rw [upd_ne (Ne.symm ud), upd_same]
        rfl
      · rw [if_neg hp] at hQ
        exact ifF (eqI_f (by omega)) fun d hd => hQ _ _ (.nw hd) ⟨d, rfl, hd, [], upd_same, .nil⟩
    | succ m =>
      refine ifF (eqI_f (by omega)) fun D hD => ?_
      have e0 : Ex H (upd H D (.dT [])) := .nw hD
      obtain ⟨p1, p2⟩ := sp_mem hps
      obtain ⟨i1, i2⟩ := inner_sp p hps
      refine ⟨_, rfl, .ref tp, p, rfl, ⟨tp, rfl, e0 _ _ htp⟩, p1, p2, fun v H1 e1 hv => ?_⟩
      obtain ⟨l, us, rfl, hl, hl1, hA⟩ := hv
      have B1 : Bd RP [] H D [] H1 := (Bd.new hD).grow mo_RP e1
      have lD : l ≠ D := fun z => by rw [z, upd_same] at hl; cases hl
      refine ⟨l, rfl, ⟨_, SqL.of hl1⟩, ?_⟩
      refine for_seqL hA mo_RT (fun acc less => (strip m less).foldl (fun acc kv => plus acc (kv.1 ++ [p.sum - less.sum]) kv.2) acc) [] (fun i T' σ H2 => ∃ m3 m4 m5, σ = [some (.int ((m + 1 : Nat) : Int)), some (.ref tp), some (.ref D), m3, m4, m5] ∧ Bd RP [] H D T' H2 ∧ ExS [D] H1 H2 ∧ T'.length ≤ i * 100) ⟨none, none, none, rfl, B1, .rf, Nat.zero_le _⟩ (fun i T' σ H2 h => ?_) (fun i T' ls x3 σ H2 hi hx3 h => ?_) fun σ H2 h => ?_
      · obtain ⟨m3, m4, m5, rfl, hB, hES, _⟩ := h
        exact ⟨SqL.of (hES l _ (fun z => lD (List.mem_singleton.mp z)) hl1), dt_imm B1.tab hES⟩
      · obtain ⟨m3, m4, m5, rfl, hB, hES, hT⟩ := h
        have hi2 := (List.getElem?_eq_some_iff.mp hi).1
        have lsp := i2 ls (List.mem_of_getElem? hi)
        have sok := strip_sp m (by omega) ls lsp
        obtain ⟨s1, sok⟩ := He.ba sok
        obtain ⟨s2, s3⟩ := He.ba sok
        have s1 := of_decide_eq_true s1
        have s2 := of_decide_eq_true s2
        refine ⟨_, rfl, _, _, rfl, rfl, _, rfl, m, x3, ls, lst2 (vint (by omega)) rfl, by omega, by omega, hx3, lsp, fun v H3 e3 hv => ?_⟩
        obtain ⟨d, rfl, hd, kd, d1, d2⟩ := hv
        have hB3 := hB.grow mo_RP e3
        have dD : d ≠ D := fun z => by
          obtain ⟨_, g, _⟩ := hB.tab
          rw [z, g] at hd
          cases hd
        refine ⟨d, _, d1, trivial, fun od => ⟨_, rfl, d, od, rfl, .inr ⟨kd, upd_same, ?_⟩⟩⟩
        have im0 : Imm H3 (upd H3 d (.frz od (.dT kd))) := .dT d1
        have B4 : Bd RP [d] H D T' (upd H3 d (.frz od (.dT kd))) := by
          refine ⟨.lock (.of hB3.ex.ex), hD, ?_⟩
          obtain ⟨kk, g1, g2⟩ := hB3.tab
          exact ⟨kk, by rw [upd_ne (Ne.symm dD)]; exact g1, g2.mo mo_RP im0⟩
        refine for_keysT (d2.mo mo_RP im0) mo_RP (fun acc kv => plus acc (kv.1 ++ [p.sum - ls.sum]) kv.2) T' (fun j T2 σ H4 => ∃ m5, σ = [some (.int ((m + 1 : Nat) : Int)), some (.ref tp), some (.ref D), some x3, some (.ref d), m5] ∧ Bd RP [d] H D T2 H4 ∧ H4 d = some (.frz od (.dT kd)) ∧ ExS [d, D] H3 H4 ∧ Imm H3 H4 ∧ Imm (upd H3 d (.frz od (.dT kd))) H4 ∧ T2.length ≤ i * 100 + j) ⟨m5, rfl, B4, upd_same, fun a o n h => by rw [upd_ne (fun z => n (by rw [z]; exact List.mem_cons_self ..))]; exact h, im0, .rf, hT⟩ (fun j T2 σ H4 h => ?_) (fun j T2 q v5 y5 σ H4 hj hkj hv5 hy5 h => ?_) fun σ H4 h => ?_
        · obtain ⟨m5, rfl, hB4, h1, h2, h3, h4, _⟩ := h
          exact ⟨h1, h4⟩
        · obtain ⟨m5, rfl, hB4, h1, h2, h3, h4, hT2⟩ := h
          have hj2 := (List.getElem?_eq_some_iff.mp hj).1
          have hq : q ∈ strip m ls := List.mem_of_getElem? hj
          have ql := of_decide_eq_true (List.all_eq_true.mp s3 q hq)
          obtain ⟨t5, r5, ht5⟩ := id hy5
          obtain ⟨t3, rfl, ht3⟩ := id (mo_RT (.of e3) hx3)
          have htp4 : H4 tp = some (.tup (p.map V.int)) := h3.tup _ _ (hB3.ex.ex _ _ htp)
          have htl4 : H4 t3 = some (.tup (ls.map V.int)) := h3.tup _ _ ht3
          refine ⟨_, rfl, _, rfl, _, rfl, tp, p, rfl, SqT.of htp4, _, rfl, t3, ls, rfl, SqT.of htl4, _, _, rfl, rfl, t1, fun q1 hq1 => ?_⟩
          refine cat_of (mo_RT (.nw hq1) hy5) (RT.mk (xs := [p.sum - ls.sum]) upd_same) (by rw [ql]; show m + 1 ≤ _; omega) fun w H5 e5 r5 => ?_
          have e45 : Ex H4 H5 := (Ex.nw hq1).tr e5
          obtain ⟨vb, gb, rb⟩ := fz_at (e45 _ _ h1) (d2.mo mo_RP (h3.tr (.of e45))) s2 hq (mo_RT (.of e45) hy5)
          have hB5 := hB4.grow mo_RP e45
          refine ⟨_, rfl, _, rfl, d, vb, rfl, gb, D, w, vb, T2, q.1 ++ [p.sum - ls.sum], q.2, rfl, hB5.tab, r5, rb, by omega, fun H6 e6 h6 => ?_⟩
          have im6 := (Imm.of e45).tr (hB5.imm e6)
          refine ⟨_, rfl, hB5.step e6 h6, e6 _ _ (fun z => dD (List.mem_singleton.mp z)) (e45 _ _ h1), fun a o n hh => ?_, h3.tr im6, h4.tr im6, ?_⟩
          · exact e6 _ _ (fun z => n (by rw [List.mem_singleton.mp z]; exact List.mem_cons_of_mem _ (List.mem_singleton.mpr rfl))) (e45 _ _ (h2 a o n hh))
          · have := len_plus T2 (q.1 ++ [p.sum - ls.sum]) q.2
            omega
        · obtain ⟨m5, rfl, hB4, h1, h2, h3, h4, hT2⟩ := h
          have im : Imm H4 (upd H4 d (.dT kd)) := .frz h1
          refine ⟨h1, _, _, _, rfl, ⟨?_, hD, ?_⟩, ?_, by omega⟩
          · intro a o n hh
            by_cases z : a = d
            · exact absurd hh (by rw [z, hB.ex.ex.fr hd]; exact fun z => nomatch z)
            · rw [upd_ne z]
              exact hB4.ex a o (fun y => z (List.mem_singleton.mp y)) hh
          · obtain ⟨kk, g1, g2⟩ := hB4.tab
            exact ⟨kk, by rw [upd_ne (Ne.symm dD)]; exact g1, g2.mo mo_RP im⟩
          · intro a o n hh
            have a2 := hES a o n hh
            have ad : a ≠ d := ne_of_none a2 hd
            rw [upd_ne ad]
            exact h2 a o (fun z => by
              rcases List.mem_cons.mp z with z | z
              · exact ad z
              · exact n z) (e3 _ _ a2)
      · obtain ⟨m3, m4, m5, rfl, hB, hES, hT⟩ := h
        exact ⟨_, rfl, hQ _ _ hB.ex.ex hB.newD⟩
end
end FB
namespace FB
open PySem PySem.Spec PyProof.Rows L2 SF FR
section
variable {P : Program} {w : World} {K : PySem.W.Frag} {mg : Str → Option Value} {base : Heap}
theorem dpAll_ints {H : Hp} : ∀ ns : List Int, DpAll K H (ns.map V.int) (ns.map PyData.int)
  | [] => .nil
  | n :: ns => .cons (.int n) (dpAll_ints ns)
theorem eqv_L : ∀ ns ms : List Int, PyData.eqvAll (ns.map PyData.int) (ms.map PyData.int) = decide (ns = ms)
  | [], [] => rfl
  | [], m :: ms => rfl
  | n :: ns, [] => rfl
  | n :: ns, m :: ms => by
    show (PyData.eqv (.int n) (.int m) && PyData.eqvAll (ns.map PyData.int) (ms.map PyData.int)) = _
    rw [eqv_L ns ms]
    by_cases h : n = m
    · subst h
      simp [PyData.eqv]
    · simp [PyData.eqv, h]
theorem eqL_of {H : Hp} {Q : VK} {a b : Addr} {ns ms : List Int} (ha : H a = some (.lst (ns.map V.int))) (hb : H b = some (.lst (ms.map V.int))) (q : Q (.bl (decide (ns = ms))) H) : rEqD K (.ref a) (.ref b) H Q := by
  refine ⟨.list (ns.map PyData.int), .list (ms.map PyData.int), .lst (SqL.of ha) (dpAll_ints ns), .lst (SqL.of hb) (dpAll_ints ms), PySem.W.ke_shaped_ints ns, PySem.W.ke_shaped_ints ms, ?_⟩
  have e : PyData.eqv (.list (ns.map PyData.int)) (.list (ms.map PyData.int)) = decide (ns = ms) := by
    show PyData.eqvAll (ns.map PyData.int) (ms.map PyData.int) = _
    exact eqv_L ns ms
  rw [e]
  exact q
theorem cut_take (ns : List Int) (m : Nat) : cutV (ns.map V.int) none (some (m : Int)) = (ns.take m).map V.int := by
  unfold cutV
  rw [HT.sIx_none, HT.sIx_nat, List.drop_zero, Nat.sub_zero, List.length_map, ← List.map_take]
  by_cases h : m ≤ ns.length
  · rw [Nat.min_eq_left h]
  · rw [Nat.min_eq_right (by omega), List.take_of_length_le (Nat.le_refl _), List.take_of_length_le (by omega)]
theorem zeros : ∀ n : Nat, (List.range n).filterMap (fun _ => some (0 : Int)) = List.replicate n 0
  | 0 => rfl
  | n + 1 => by rw [List.range_succ, List.filterMap_append, zeros n, List.replicate_succ']; rfl
def mulOk (n : Nat) (A F : Tb) : Bool := decide (A.length ≤ 100) && (decide (F.length ≤ 100) && ((A.all fun q => decide (q.1.length = n)) && ((F.all fun q => decide (q.1.length = n) && (decide (q.2 % 2 = 0) && (decide (-1000 < q.2) && decide (q.2 < 1000)))) && (decide ((A.map (·.1)).Nodup) && decide ((F.map (·.1)).Nodup)))))
def basicOk (b : SF.B) (n : Nat) (p : Pt) : Bool := (List.range p.length).all fun i => mulOk n ((p.take i).foldl (fun tot k => timesT tot (factor b n k)) [(List.replicate n 0, 2)]) (factor b n (p.getD i 0))
theorem basic_sp : ∀ b, b = SF.B.e ∨ b = .h ∨ b = .p → ∀ n, n ≤ 4 → ∀ p ∈ smallParts, basicOk b n p = true := by
  have z : ∀ n, n ≤ 4 → ∀ p ∈ smallParts, basicOk .e n p = true ∧ basicOk .h n p = true ∧ basicOk .p n p = true := by decide +kernel
  intro b hb n hn p hp
  obtain ⟨z1, z2, z3⟩ := z n hn p hp
  rcases hb with rfl | rfl | rfl
  · exact z1
  · exact z2
  · exact z3
def spBasic : Sp := fun vs H Q _ => ∃ (b : SF.B) (n : Nat) (x : V) (p : Pt), vs = [.str (bstr b), .int (n : Int), x] ∧ b ≠ .s ∧ n ≤ 4 ∧ RT H x p ∧ p ∈ smallParts ∧ ∀ v H', Ex H H' → NewD RP H H' v (basic b n p) → Q v H'
theorem sp_sum {p : Pt} (h : p ∈ smallParts) : 0 ≤ p.sum ∧ p.sum ≤ 4 := by
  have z : ∀ p ∈ smallParts, 0 ≤ p.sum ∧ p.sum ≤ 4 := by decide +kernel
  exact z p h
theorem sc_law_basic : FnScope ["_law_base", "_law_n", "_law_part", "_law_total", "_law_wide", "_law_k", "_law_factor", "_law_v", "_law_top"] ["_law_base", "_law_n", "_law_part"] (defScope (top 69)) := ⟨rfl, rfl, rfl, by decide +kernel, rfl, by decide +kernel, by decide +kernel⟩
theorem ok_law_basic (T : Tx K mg) : Cal P w K mg base 10 "_law_basic" ["_law_base", "_law_n", "_law_part"] [] (spBasic) := by
  have c_law_exponents := ok_law_exponents (P := P) (w := w) (base := base) T 9
  have c_law_table_of := ok_law_table_of (P := P) (w := w) (base := base) T
  have c_law_times := ok_law_times (P := P) (w := w) (base := base) T
  obtain ⟨fd, F⟩ := T.d 38 _ rfl
  have sc := sc_law_basic
  refine ⟨_, fd, [], FunD.ok (k := 9) F sc (fun vs H Q E h => by obtain ⟨_, _, _, _, rfl, _⟩ := h; rfl) (fun cdv A outer s H vs Q E hr h => ?_), T.g "_law_basic" (by decide +kernel), F.kp, FunD.bindsN F (fun _ _ _ _ _ _ us hl => match us, hl with | [_, _, _], _ => rfl), .nil⟩
  refine ⟨_, PSs.nox ((pss_cons (ps_set (i := 3) sc.nd rfl (Or.inl rfl) (pe_disp1 hr.units0 (pe_callTy call_tuple_of (by rfl) (T.f "tuple" (by decide +kernel)) (by decide +kernel) (pa_cons (pe_lc (own := [("_law_k", 5)]) rfl sc.nd (pi_range1 rfl (T.f "range" (by decide +kernel)) (pa_cons (pv 1) pa_nil)) (blkOk_by (N := ["_law_base", "_law_n", "_law_part", "_law_total", "_law_wide", "_law_k", "_law_factor", "_law_v", "_law_top"]) (sc := defScope (top 69)) (by decide +kernel)) (fun _ _ _ _ _ => (pg_name (i := 5) sc.nd rfl (Or.inl rfl))) (fun _ _ _ _ _ => pts_nil) (fun _ _ _ _ _ => pe_int)) pa_nil)) (pe_tup (pa_cons pe_int (pa_cons pe_int pa_nil)))))
  (pss_cons (ps_if (pt_cmpR op_eq (pv 0) pe_str (nomark _))
  (pss_cons (ps_set (i := 4) sc.nd rfl (Or.inr rfl) (pe_slice sl_list (pe_callBK (cr_sortedU (b := true)) (by rfl) (T.f "sorted" (by decide +kernel)) (by decide +kernel) (pa_cons (pe_op op_catA (pv 2) (pe_callTy call_tuple_of (by rfl) (T.f "tuple" (by decide +kernel)) (by decide +kernel) (pa_cons (pe_lc (own := [("_law_k", 5)]) rfl sc.nd (pi_range1 rfl (T.f "range" (by decide +kernel)) (pa_cons (pv 1) pa_nil)) (blkOk_by (N := ["_law_base", "_law_n", "_law_part", "_law_total", "_law_wide", "_law_k", "_law_factor", "_law_v", "_law_top"]) (sc := defScope (top 69)) (by decide +kernel)) (fun _ _ _ _ _ => (pg_name (i := 5) sc.nd rfl (Or.inl rfl))) (fun _ _ _ _ _ => pts_nil) (fun _ _ _ _ _ => pe_int)) pa_nil))) pa_nil) (pk_cons pe_bl pk_nil)) po_none (po_some (pe_callB (call_max2 rfl) (by rfl) (T.f "max" (by decide +kernel)) (by decide +kernel) (pa_cons (pv 1) (pa_cons (pe_callB call_len_seq (by rfl) (T.f "len" (by decide +kernel)) (by decide +kernel) (pa_cons (pv 2) pa_nil)) pa_nil))))))
  (pss_one (ps_ret (pe_cg c_law_table_of (hr.mono (by decide)) (pa_cons (pe_lc (own := [("_law_v", 7)]) rfl sc.nd (pi_list (pe_cg c_law_exponents (hr.mono (by decide)) (pa_cons (pv 1) (pa_cons (pe_callB (cr_sumU rfl) (by rfl) (T.f "sum" (by decide +kernel)) (by decide +kernel) (pa_cons (pv 2) pa_nil)) pa_nil)))) (blkOk_by (N := ["_law_base", "_law_n", "_law_part", "_law_total", "_law_wide", "_law_k", "_law_factor", "_law_v", "_law_top"]) (sc := defScope (top 69)) (by decide +kernel)) (fun _ _ _ _ _ => (pg_name (i := 7) sc.nd rfl (Or.inl rfl))) (fun _ _ _ _ _ => (pts_one (pt_cmpR (eqD_K (K := K) hr.units) (pe_callBK (srtU_K (K := K) (b := true)) (by rfl) (T.f "sorted" (by decide +kernel)) (by decide +kernel) (pa_cons (pv 7) pa_nil) (pk_cons pe_bl pk_nil)) (pv 4) (nomark _)))) (fun _ _ _ _ _ => (pe_tup (pa_cons (pv 7) (pa_cons (pe_tup (pa_cons pe_int (pa_cons pe_int pa_nil))) pa_nil))))) pa_nil))))) pss_nil)
  (pss_cons (ps_for PassesOwn.never rfl (pi_tup (pv 2)) (pg_name (i := 5) sc.nd rfl (Or.inl rfl))
  (pss_cons (ps_set (i := 6) sc.nd rfl (Or.inl rfl) pe_dnewT)
  (pss_cons (ps_for PassesOwn.never rfl (pi_list (pe_cg c_law_exponents (hr.mono (by decide)) (pa_cons (pv 1) (pa_cons (pv 5) pa_nil)))) (pg_name (i := 7) sc.nd rfl (Or.inl rfl))
  (pss_cons (ps_set (i := 8) sc.nd rfl (Or.inl rfl) (pe_callB (cr_maxU rfl) (by rfl) (T.f "max" (by decide +kernel)) (by decide +kernel) (pa_cons (pe_op op_catA (pv 7) (pe_tup (pa_cons pe_int pa_nil))) pa_nil)))
  (pss_one (ps_if (PW.pt (pw_or (pt_cmpR op_eq (pv 0) pe_str (nomark _)) (pw_or (PW.pt (pw_and (pt_cmpR op_eq (pv 0) pe_str (nomark _)) (pw_and1 (pt_cmpR op_lt (pv 8) pe_int (nomark _))))) (pw_or1 (PW.pt (pw_and (pt_cmpR op_eq (pv 0) pe_str (nomark _)) (pw_and1 (pt_cmpR op_eq (pv 8) (pv 5) (nomark _)))))))))
  (pss_one (ps_dput (hu_of hr) (pv 6) (pv 7) (pe_tup (pa_cons pe_int (pa_cons pe_int pa_nil))) rfl)) pss_nil))))
  (pss_one (ps_set (i := 3) sc.nd rfl (Or.inl rfl) (pe_cg c_law_times (hr.mono (by decide)) (pa_cons (pv 3) (pa_cons (pv 6) pa_nil))))))))
  (pss_one (ps_ret (pv 3))))))), ?_⟩
  obtain ⟨b, n, x, p, rfl, bs, hn, ⟨tp, rfl, htp⟩, hps, hQ⟩ := h
  obtain ⟨p1, p2⟩ := sp_mem hps
  obtain ⟨s0, s4⟩ := sp_sum hps
  -- the first table
  refine fun d hd => ⟨_, rfl, _, rfl, by omega, by omega, fun L hL => ?_⟩
  rw [Int.toNat_natCast]
  refine lc_rng (R := RI) (lo := 0) (n := n) (fun _ => some 0) mo_RI (by omega) (fun k H3 C N hk e3 c1 c2 => ?_) hL (fun H3 acc e3 h3 hAc => ?_)
  · exact ⟨rfl, yes_of (iteT (c1 _ _ _ rfl .rf rfl))⟩
  rw [zeros] at hAc
  have ea := all_RI hAc
  refine ⟨L, _, rfl, .inl ⟨SqL.of h3, fun k0 hk0 => ⟨t2, fun u hu => ?_⟩⟩⟩
  have d3 : H3 d = some (.dT []) := e3 _ _ upd_same
  have dk : d ≠ k0 := ne_of_none d3 hk0
  have d4 : upd H3 k0 (.tup acc) d = some (.dT []) := upd_new hk0 d3
  have du : d ≠ u := ne_of_none d4 hu
  have ku : k0 ≠ u := ne_of_none (upd_same (H := H3) (o := .tup acc) (a := k0)) hu
  refine ⟨upd_new hu d4, k0, KI (List.replicate n 0), rfl, .inl ⟨by rw [KI_kV, upd_ne ku, upd_same, ea], ?_⟩⟩
  have eH : Ex H (upd (upd (upd H3 k0 (.tup acc)) u (.tup [.int 1, .int 1])) d (.dT [(KI (List.replicate n 0), .ref u)])) := (((Ex.nw hd).tr e3).tr ((Ex.nw hk0).tr (.nw hu))).mt hd
  have td : Dt RP (upd (upd (upd H3 k0 (.tup acc)) u (.tup [.int 1, .int 1])) d (.dT [(KI (List.replicate n 0), .ref u)])) d [(List.replicate n 0, 2)] := ⟨_, upd_same, .cons ⟨rfl, u, rfl, by rw [upd_ne (Ne.symm du), upd_same]; rfl⟩ .nil⟩
  generalize upd (upd (upd H3 k0 (.tup acc)) u (.tup [.int 1, .int 1])) d (.dT [(KI (List.replicate n 0), .ref u)]) = H1 at eH td
  clear ea hAc dk d4 du ku d3
  refine ⟨_, rfl, rfl, _, rfl, ?_⟩
  show if decide (V.str (bstr b) = V.str "m") = true then _ else _
  rw [str_m]
  have htp1 := eH _ _ htp
  by_cases bm : b = .m
  · have eb : basic b n p = tableOf (((exps n p.sum.toNat).filter fun v => decide (sortD v = (sortD (p ++ List.replicate n 0)).take (max n p.length))).map fun v => (v, 2)) := by unfold basic; rw [if_pos bm]
    rw [eb] at hQ
    refine ifT (decide_eq_true bm) ?_
    refine ⟨_, rfl, _, rfl, _, rfl, by omega, by omega, fun L2 hL2 => ?_⟩
    rw [Int.toNat_natCast]
    refine lc_rng (R := RI) (lo := 0) (n := n) (fun _ => some 0) mo_RI (by omega) (fun k H3 C N hk e3 c1 c2 => ?_) hL2 (fun H4 acc2 e4 h4 hAc2 => ?_)
    · exact ⟨rfl, yes_of (iteT (c1 _ _ _ rfl .rf rfl))⟩
    rw [zeros] at hAc2
    have ea2 := all_RI hAc2
    refine ⟨L2, _, rfl, .inl ⟨SqL.of h4, fun k2 hk2 => ?_⟩⟩
    refine cat_of (xs := p) (ys := List.replicate n 0) ⟨tp, rfl, upd_new hk2 (e4 _ _ htp1)⟩ ⟨k2, rfl, by rw [upd_same, ea2]⟩ (by rw [List.length_replicate]; omega) fun w H5 e5 r5 => ?_
    have e15 : Ex H1 H5 := e4.tr ((Ex.nw hk2).tr e5)
    obtain ⟨tw, rfl, htw⟩ := r5
    refine ⟨tw, _, rfl, rfl, SqT.of htw, fun ns' q1 pm od hq1 => ?_⟩
    have es := sortD_uniq pm od
    subst es
    have e16 := e15.tr (Ex.nw (o := HO.lst ((sortD (p ++ List.replicate n 0)).map V.int)) hq1)
    refine ⟨_, rfl, _, rfl, tp, _, rfl, .inr (SqT.of (e16 _ _ htp1)), _, _, rfl, ?_⟩
    have em : (if ((p.map V.int).length : Int) > (n : Int) then ((p.map V.int).length : Int) else (n : Int)) = ((max n p.length : Nat) : Int) := by rw [List.length_map]; split <;> omega
    rw [em]
    refine ⟨_, rfl, q1, _, rfl, SqL.of upd_same, fun q2 hq2 => ?_⟩
    rw [cut_take]
    have e17 := e16.tr (Ex.nw (o := HO.lst (((sortD (p ++ List.replicate n 0)).take (max n p.length)).map V.int)) hq2)
    refine ⟨_, rfl, _, rfl, tp, p, rfl, SqT.of (e17 _ _ htp1), n, p.sum.toNat, lst2 rfl (vint (by omega)), by omega, by omega, by omega, fun m' h' d' h'' => len_exps m' (by omega) d' (by omega), fun v H7 e7 hv => ?_⟩
    obtain ⟨l, us, rfl, hl, hl7, hA⟩ := hv
    have le := len_exps n hn p.sum.toNat (by omega)
    have hw7 : H7 q2 = some (.lst (((sortD (p ++ List.replicate n 0)).take (max n p.length)).map V.int)) := e7 _ _ upd_same
    refine ⟨l, rfl, ⟨_, SqL.of hl7⟩, fun L3 hL3 => ?_⟩
    refine lc_seqL (R := RPr RT RP) (SqL.of hl7) hA (fun v => if decide (sortD v = (sortD (p ++ List.replicate n 0)).take (max n p.length)) = true then some (v, 2) else none) mo_RT (mo_RPr mo_RT mo_RP) (by omega) (fun i v z H8 C N hi e8 hz c1 c2 => ?_) hL3 (fun H8 acc8 e8 h8 hA8 => ?_)
    · obtain ⟨tz, rfl, htz⟩ := id hz
      refine ⟨rfl, _, rfl, tz, _, rfl, rfl, SqT.of htz, fun ns2 q3 pm2 od2 hq3 => ?_⟩
      have es2 := sortD_uniq pm2 od2
      subst es2
      refine ⟨_, rfl, eqL_of upd_same (upd_new hq3 (e8 _ _ hw7)) ⟨_, rfl, ?_⟩⟩
      by_cases hh : sortD v = (sortD (p ++ List.replicate n 0)).take (max n p.length)
      · refine ifT (decide_eq_true hh) ⟨_, rfl, t2, fun u1 hu1 => ⟨t2, fun u2 hu2 => ?_⟩⟩
        have e89 := (Ex.nw (o := HO.lst ((sortD v).map V.int)) hq3).tr ((Ex.nw (o := HO.tup [V.int 1, V.int 1]) hu1).tr (Ex.nw (o := HO.tup [V.ref tz, V.ref u1]) hu2))
        refine c1 (v, 2) _ _ (by rw [if_pos (decide_eq_true hh)]) e89 ⟨u2, _, _, rfl, upd_same, ⟨tz, rfl, e89 _ _ htz⟩, u1, rfl, ?_⟩
        rw [upd_ne (ne_of_none (upd_same (o := HO.tup [V.int 1, V.int 1]) (a := u1)) hu2), upd_same]
        rfl
      · exact ifF (decide_eq_false hh) (c2 (by rw [if_neg (by rw [decide_eq_false hh]; decide)]) _ (.nw hq3))
    · have e18 := eH.tr (e17.tr (e7.tr e8))
      have ef := fm_filter (fun v => decide (sortD v = (sortD (p ++ List.replicate n 0)).take (max n p.length))) (fun v => (v, (2 : Int))) (exps n p.sum.toNat)
      rw [ef] at hA8
      refine ⟨L3, acc8, _, rfl, h8, hA8, ?_, fun v H9 e9 hv => hQ _ _ (e18.tr e9) (hv.of e18)⟩
      rw [List.length_map]
      have := List.length_filter_le (fun v => decide (sortD v = (sortD (p ++ List.replicate n 0)).take (max n p.length))) (exps n p.sum.toNat)
      omega
  · have eb : basic b n p = p.foldl (fun tot k => timesT tot (factor b n k)) [(List.replicate n 0, 2)] := by unfold basic; rw [if_neg bm]
    rw [eb] at hQ
    have bok : b = SF.B.e ∨ b = .h ∨ b = .p := by cases b <;> simp at bm bs ⊢
    have ok := basic_sp b bok n hn p hps
    have hdd := hd
    refine ifF (decide_eq_false bm) ⟨_, rfl, tp, rfl, ⟨_, SqT.of htp1⟩, ?_⟩
    refine for_seqT (all_ints _ p) mo_RI (fun tot k => timesT tot (factor b n k)) [(List.replicate n 0, 2)] (fun i T' σ H2 => ∃ d9 m4 m5 m6 m7 m8, σ = [some (.str (bstr b)), some (.int (n : Int)), some (.ref tp), some (.ref d9), m4, m5, m6, m7, m8] ∧ Ex H1 H2 ∧ H d9 = none ∧ Dt RP H2 d9 T' ∧ T' = (p.take i).foldl (fun tot k => timesT tot (factor b n k)) [(List.replicate n 0, 2)]) ⟨d, none, none, none, none, none, rfl, .rf, hdd, td, rfl⟩ (fun i T' σ H2 h => ?_) (fun i T' k x' σ H2 hi hx' h => ?_) fun σ H2 h => ?_
    · obtain ⟨d9, m4, m5, m6, m7, m8, rfl, hE, _⟩ := h
      exact ⟨SqT.of (hE _ _ htp1), .of hE⟩
    · obtain ⟨d9, m4, m5, m6, m7, m8, rfl, hE, hdn, hD9, hT⟩ := h
      have hx'' : x' = .int k := hx'
      subst hx''
      have hi2 := (List.getElem?_eq_some_iff.mp hi).1
      have gd : p.getD i 0 = k := by rw [List.getD_eq_getElem?_getD, hi]; rfl
      have okI := List.all_eq_true.mp ok i (List.mem_range.mpr hi2)
      rw [gd, ← hT] at okI
      obtain ⟨o1, okI⟩ := He.ba okI
      obtain ⟨o2, okI⟩ := He.ba okI
      obtain ⟨o3, okI⟩ := He.ba okI
      obtain ⟨o4, okI⟩ := He.ba okI
      obtain ⟨o5, o6⟩ := He.ba okI
      have k04 := p2 k (List.mem_of_getElem? hi)
      obtain ⟨kn, hkn⟩ : ∃ kn : Nat, k = (kn : Int) := ⟨k.toNat, by omega⟩
      have ekn : k.toNat = kn := by omega
      refine fun D hD => ?_
      have eD : Ex H2 (upd H2 D (.dT [])) := .nw hD
      refine ⟨_, rfl, _, rfl, n, kn, lst2 rfl (vint hkn), by omega, by omega, by omega, fun m' h' d' h'' => len_exps m' (by omega) d' (by omega), fun v H3 e3 hv => ?_⟩
      obtain ⟨l, us, rfl, hl, hl3, hA⟩ := hv
      have le := len_exps n hn kn (by omega)
      have B3 : Bd RP [] H2 D [] H3 := (Bd.new hD).grow mo_RP e3
      have lD : l ≠ D := fun z => by rw [z, upd_same] at hl; cases hl
      refine ⟨l, rfl, ⟨_, SqL.of hl3⟩, ?_⟩
      refine for_seqL hA mo_RT (fun T v => if SF.cond b (maxL v) k = true then SF.put T v 2 else T) [] (fun j T2 σ H4 => ∃ m7 m8, σ = [some (.str (bstr b)), some (.int (n : Int)), some (.ref tp), some (.ref d9), m4, some (.int k), some (.ref D), m7, m8] ∧ Bd RP [] H2 D T2 H4 ∧ ExS [D] H3 H4 ∧ T2.length ≤ j) ⟨m7, m8, rfl, B3, .rf, Nat.le_refl _⟩ (fun j T2 σ H4 h => ?_) (fun j T2 v x7 σ H4 hj hx7 h => ?_) fun σ H4 h => ?_
      · obtain ⟨m7, m8, rfl, hB4, hE4, _⟩ := h
        exact ⟨SqL.of (hE4 l _ (fun z => lD (List.mem_singleton.mp z)) hl3), dt_imm B3.tab hE4⟩
      · obtain ⟨m7, m8, rfl, hB4, hE4, hT2⟩ := h
        have hj2 := (List.getElem?_eq_some_iff.mp hj).1
        have vl : v.length = n := exps_len _ _ _ (List.mem_of_getElem? hj)
        refine ⟨_, rfl, t1, fun p5 hp5 => ?_⟩
        refine cat_of (mo_RT (.nw hp5) hx7) (RT.mk (xs := [0]) upd_same) (by show v.length + 1 ≤ _; omega) fun w H6 e6 r6 => nil_of (max_of r6 ?_)
        have e46 := (Ex.nw (o := HO.tup [V.int 0]) hp5).tr e6
        have hB6 := hB4.grow mo_RP e46
        refine cond_of (b := b) (top := maxL v) (k := k) rfl rfl rfl ?_
        by_cases c2 : SF.cond b (maxL v) k = true
        · refine ifT c2 ⟨t2, fun u1 hu1 => ?_⟩
          have e7 : Ex H4 (upd H6 u1 (.tup [.int 1, .int 1])) := e46.tr (.nw hu1)
          obtain ⟨H8, g1, g2, g3⟩ := dt_put mo_RP (hB4.grow mo_RP e7).tab (by omega) (mo_RT (.of e7) hx7) (v := .ref u1) (x := 2) ⟨u1, rfl, upd_same⟩
          refine ⟨_, rfl, _, rfl, D, H8, rfl, g1, _, _, rfl, ?_⟩
          rw [if_pos c2]
          refine ⟨(hB4.grow mo_RP e7).step g2 g3, (hE4.tr e7).trS g2, ?_⟩
          have := len_put T2 v 2
          omega
        · refine ifF (Bool.eq_false_iff.mpr c2) ⟨_, _, rfl, ?_⟩
          rw [if_neg c2]
          exact ⟨hB6, hE4.tr e46, by omega⟩
      · obtain ⟨m7, m8, rfl, hB4, hE4, hT2⟩ := h
        have ef : (exps n kn).foldl (fun T v => if SF.cond b (maxL v) k = true then SF.put T v 2 else T) [] = factor b n k := by unfold factor; rw [ekn]
        rw [ef] at hB4
        have e24 := hB4.ex.ex
        have d9D : d9 ≠ D := by
          obtain ⟨_, g, _⟩ := hD9
          exact ne_of_none g hD
        refine ⟨_, rfl, _, rfl, d9, D, T', factor b n k, n, rfl, d9D, hD9.mo mo_RP e24, hB4.tab, of_decide_eq_true o1, of_decide_eq_true o2, by omega, fun q hq => of_decide_eq_true (List.all_eq_true.mp o3 q hq), fun q hq => ?_, of_decide_eq_true o5, of_decide_eq_true o6, fun v H5 e5 hv => ?_⟩
        · obtain ⟨z1, z⟩ := He.ba (List.all_eq_true.mp o4 q hq)
          obtain ⟨z2, z⟩ := He.ba z
          obtain ⟨z3, z4⟩ := He.ba z
          have z3 := of_decide_eq_true z3
          have z4 := of_decide_eq_true z4
          exact ⟨of_decide_eq_true z1, of_decide_eq_true z2, by omega, by omega⟩
        · obtain ⟨d', rfl, hd', hT'⟩ := hv
          have e15 := hE.tr (e24.tr e5)
          refine ⟨d', _, _, _, _, _, rfl, e15, (eH.tr (hE.tr e24)).fr hd', hT', ?_⟩
          rw [fold_take (fun tot k => timesT tot (factor b n k)) [(List.replicate n 0, 2)] hi, ← hT]
    · obtain ⟨d9, m4, m5, m6, m7, m8, rfl, hE, hdn, hD9, hT⟩ := h
      exact ⟨_, rfl, hQ _ _ (eH.tr hE) ⟨d9, rfl, hdn, hD9⟩⟩
def spPoly : Sp := fun vs H Q _ => ∃ (b : SF.B) (n : Nat) (x : V) (p : Pt), vs = [.str (bstr b), .int (n : Int), x] ∧ n ≤ 4 ∧ RT H x p ∧ p ∈ smallParts ∧ ∀ v H', Ex H H' → NewD RP H H' v (polyL b n p) → Q v H'
theorem sc_law_polynomial : FnScope ["_law_base", "_law_n", "_law_part"] ["_law_base", "_law_n", "_law_part"] (defScope (top 72)) := ⟨rfl, rfl, rfl, by decide +kernel, rfl, by decide +kernel, by decide +kernel⟩
theorem ok_law_polynomial (T : Tx K mg) : Cal P w K mg base 11 "_law_polynomial" ["_law_base", "_law_n", "_law_part"] [] (spPoly) := by
  have c_law_basic := ok_law_basic (P := P) (w := w) (base := base) T
  have c_law_strip_sum := ok_law_strip_sum (P := P) (w := w) (base := base) T 5
  obtain ⟨fd, F⟩ := T.d 41 _ rfl
  have sc := sc_law_polynomial
  refine ⟨_, fd, [], FunD.ok (k := 10) F sc (fun vs H Q E h => by obtain ⟨_, _, _, _, rfl, _⟩ := h; rfl) (fun cdv A outer s H vs Q E hr h => ?_), T.g "_law_polynomial" (by decide +kernel), F.kp, FunD.bindsN F (fun _ _ _ _ _ _ us hl => match us, hl with | [_, _, _], _ => rfl), .nil⟩
  refine ⟨_, PSs.nox ((pss_cons (ps_if (pt_cmpR op_eq (pv 0) pe_str (nomark _))
  (pss_one (ps_ret (pe_cg c_law_strip_sum (hr.mono (by decide)) (pa_cons (pv 1) (pa_cons (pv 2) pa_nil))))) pss_nil)
  (pss_one (ps_ret (pe_cg c_law_basic (hr.mono (by decide)) (pa_cons (pv 0) (pa_cons (pv 1) (pa_cons (pv 2) pa_nil)))))))), ?_⟩
  obtain ⟨b, n, x, p, rfl, hn, hx, hps, hQ⟩ := h
  refine ⟨_, rfl, rfl, _, rfl, ?_⟩
  show if decide (V.str (bstr b) = V.str "s") = true then _ else _
  rw [str_s]
  by_cases bs : b = .s
  · have e : polyL b n p = strip n p := by unfold polyL; rw [if_pos bs]
    rw [e] at hQ
    exact ifT (decide_eq_true bs) ⟨_, rfl, _, rfl, n, x, p, rfl, by omega, hn, hx, hps, hQ⟩
  · have e : polyL b n p = basic b n p := by unfold polyL; rw [if_neg bs]
    rw [e] at hQ
    exact ifF (decide_eq_false bs) ⟨_, rfl, _, rfl, _, rfl, b, n, x, p, rfl, bs, hn, hx, hps, hQ⟩
end
end FB
namespace FB
open PySem PySem.Spec PyProof.Rows L2 SF FR
section
variable {P : Program} {w : World} {K : PySem.W.Frag} {mg : Str → Option Value} {base : Heap}
def goodT (n : Nat) (T : Tb) : Prop := (T.map (·.1)).Nodup ∧ (∀ q ∈ T, q.1 ∈ smallParts ∧ q.2 ≠ 0) ∧ T.length ≤ n
theorem mem_put2 {T : Tb} {k : Pt} {v : Int} {q : Pt × Int} (h : q ∈ SF.put T k v) : q = (k, v) ∨ q ∈ T := by
  unfold SF.put at h
  split at h
  · obtain ⟨r, hr, e⟩ := List.mem_map.mp h
    split at e
    · rename_i hk
      left
      rw [← e, hk]
    · right
      rw [← e]
      exact hr
  · rcases List.mem_append.mp h with h | h
    · exact .inr h
    · exact .inl (List.mem_singleton.mp h)
theorem nodup_drop {T : Tb} (k : Pt) (h : (T.map (·.1)).Nodup) : ((SF.drop T k).map (·.1)).Nodup := List.Nodup.sublist (List.Sublist.map _ List.filter_sublist) h
theorem good_plus {n : Nat} {T : Tb} {e : Pt} {c : Int} (h : goodT n T) (he : e ∈ smallParts) : goodT (n + 1) (plus T e c) := by
  obtain ⟨h1, h2, h3⟩ := h
  have hl := len_plus T e c
  refine ⟨?_, fun q hq => ?_, by omega⟩
  · unfold plus
    split
    · exact nodup_drop _ h1
    · exact nodup_put _ _ h1
  · unfold plus at hq
    split at hq
    · exact h2 q (List.mem_filter.mp hq).1
    · rename_i hz
      rcases mem_put2 hq with rfl | hq
      · exact ⟨he, hz⟩
      · exact h2 q hq
def RDr (H : Hp) (v : V) (b : SF.B) (T : Tb) : Prop := ∃ t dt, v = .ref t ∧ H t = some (.tup [.str (bstr b), .ref dt]) ∧ Dt RP H dt T
theorem RDr.ex {H H' : Hp} {v : V} {b : SF.B} {T : Tb} (h : RDr H v b T) (e : Ex H H') : RDr H' v b T := by
  obtain ⟨t, dt, h1, h2, h3⟩ := h
  exact ⟨t, dt, h1, e _ _ h2, h3.mo mo_RP e⟩
def spFunc : Sp := fun vs H Q _ => ∃ l : Addr, vs = [.ref l, .int 4] ∧ St2 H l ∧ ∀ b T t dt H', ExS [l] H H' → St2 H' l → H' t = some (.tup [.str (bstr b), .ref dt]) → Dt RP H' dt T → H dt = none → goodT 3 T → Q (.ref t) H'
theorem st_imm {H H' : Hp} {l : Addr} (h : St2 H l) (e : ExS [l] H H') : Imm H H' := by
  obtain ⟨s, t, h1, _⟩ := h
  have ne : ∀ a o, H a = some o → (∀ z, o ≠ .lst z) → a ∉ [l] := fun a o ha n z => by
    rw [List.mem_singleton.mp z, h1] at ha
    exact n _ (Option.some.inj ha).symm
  exact ⟨fun a ys h => e a _ (ne a _ h (fun z q => by cases q)) h, fun a C dx fs h => e a _ (ne a _ h (fun z q => by cases q)) h⟩
theorem st_dt {α : Type} {R : Rv α} {H H' : Hp} {l D : Addr} {T : List (Pt × α)} (m : Mo R) (h : St2 H l) (e : ExS [l] H H') (d : Dt R H D T) : Dt R H' D T := by
  obtain ⟨kd, d1, d2⟩ := d
  refine ⟨kd, e D _ (fun z => ?_) d1, d2.mo m (st_imm h e)⟩
  obtain ⟨s, t, h1, _⟩ := h
  rw [List.mem_singleton.mp z, h1] at d1
  cases d1
theorem base_at (r : Int) (h0 : 0 ≤ r) (h1 : r < 5) : ∃ b c, atI (Str.ofString "mehps").cps.toList r = some c ∧ bstr b = ⟨#[c]⟩ := by
  have c : r = 0 ∨ r = 1 ∨ r = 2 ∨ r = 3 ∨ r = 4 := by omega
  rcases c with rfl | rfl | rfl | rfl | rfl
  · exact ⟨.m, 109, by decide +kernel, by decide +kernel⟩
  · exact ⟨.e, 101, by decide +kernel, by decide +kernel⟩
  · exact ⟨.h, 104, by decide +kernel, by decide +kernel⟩
  · exact ⟨.p, 112, by decide +kernel, by decide +kernel⟩
  · exact ⟨.s, 115, by decide +kernel, by decide +kernel⟩
theorem parts_pos : ∀ d, d ≤ 4 → 0 < (partsOf d).length ∧ (partsOf d).length ≤ 100 ∧ ∀ p ∈ partsOf d, p ∈ smallParts := by decide +kernel
theorem sc_law_function : FnScope ["_law_state_here", "_law_most", "_law_base", "_law_terms_here", "_law_turn", "_law_d", "_law_parts"] ["_law_state_here", "_law_most"] (defScope (top 73)) := ⟨rfl, rfl, rfl, by decide +kernel, rfl, by decide +kernel, by decide +kernel⟩
theorem ok_law_function (T : Tx K mg) : Cal P w K mg base 12 "_law_function" ["_law_state_here", "_law_most"] [] (spFunc) := by
  have c_law_take := ok_law_take (P := P) (w := w) (base := base) T
  have c_law_partitions := ok_law_partitions (P := P) (w := w) (base := base) T 5
  have c_law_plus := ok_law_plus (P := P) (w := w) (base := base) T
  have c_law_item := ok_law_item (P := P) (w := w) (base := base) T
  obtain ⟨fd, F⟩ := T.d 42 _ rfl
  have sc := sc_law_function
  refine ⟨_, fd, [], FunD.ok (k := 11) F sc (fun vs H Q E h => by obtain ⟨_, rfl, _⟩ := h; rfl) (fun cdv A outer s H vs Q E hr h => ?_), T.g "_law_function" (by decide +kernel), F.kp, FunD.bindsN F (fun _ _ _ _ _ _ us hl => match us, hl with | [_, _], _ => rfl), .nil⟩
  refine ⟨_, PSs.nox ((pss_cons (ps_set (i := 2) sc.nd rfl (Or.inl rfl) (pe_ix ix_str pe_str (pe_cg c_law_take (hr.mono (by decide)) (pa_cons (pv 0) (pa_cons pe_int pa_nil))) (fun _ _ => rfl)))
  (pss_cons (ps_set (i := 3) sc.nd rfl (Or.inl rfl) pe_dnewT)
  (pss_cons (ps_for PassesOwn.never rfl (pi_range1 rfl (T.f "range" (by decide +kernel)) (pa_cons (pe_cg c_law_take (hr.mono (by decide)) (pa_cons (pv 0) (pa_cons pe_int pa_nil))) pa_nil)) (pg_name (i := 4) sc.nd rfl (Or.inl rfl))
  (pss_cons (ps_set (i := 5) sc.nd rfl (Or.inl rfl) (pe_cg c_law_take (hr.mono (by decide)) (pa_cons (pv 0) (pa_cons (pe_op op_add (pv 1) pe_int) pa_nil))))
  (pss_cons (ps_set (i := 6) sc.nd rfl (Or.inl rfl) (pe_cg c_law_partitions (hr.mono (by decide)) (pa_cons (pv 5) (pa_cons (pv 5) pa_nil))))
  (pss_one (ps_expr (pe_cg c_law_plus (hr.mono (by decide)) (pa_cons (pv 3) (pa_cons (pe_ix ix_list (pv 6) (pe_cg c_law_take (hr.mono (by decide)) (pa_cons (pv 0) (pa_cons (pe_callB call_len_seq (by rfl) (T.f "len" (by decide +kernel)) (by decide +kernel) (pa_cons (pv 6) pa_nil)) pa_nil))) (fun _ _ => rfl)) (pa_cons (pe_cg c_law_item (hr.mono (by decide)) (pa_cons (pv 0) pa_nil)) pa_nil)))))))))
  (pss_one (ps_ret (pe_tup (pa_cons (pv 2) (pa_cons (pv 3) pa_nil))))))))), ?_⟩
  obtain ⟨l, rfl, hl, hQ⟩ := h
  refine ⟨_, rfl, l, 5, rfl, hl, by omega, by omega, fun r H1 e1 h1 r0 r1 => ?_⟩
  obtain ⟨b, c, hc1, hc2⟩ := base_at r r0 r1
  refine ⟨_, r, c, rfl, rfl, line_of (by decide +kernel), hc1, ?_⟩
  rw [← hc2]
  refine fun D hD => ?_
  have DH : H D = none := by
    cases q : H D with
    | none => rfl
    | some o =>
      by_cases z : D ∈ [l]
      · obtain ⟨s, t, g, _⟩ := h1
        rw [List.mem_singleton.mp z, g] at hD
        cases hD
      · rw [e1 D o z q] at hD
        cases hD
  have e2 : Ex H1 (upd H1 D (.dT [])) := .nw hD
  refine ⟨_, rfl, l, 4, rfl, st2_ex h1 e2, by omega, by omega, fun n H2 e3 h2 n0 n1 => ?_⟩
  refine ⟨n, rfl, by omega, by omega, ?_⟩
  have lD : l ≠ D := by
    obtain ⟨s, t, g, _⟩ := h1
    exact ne_of_none g hD
  have ex2 : ExS [l] H H2 := (e1.tr e2).trS e3
  have B2 : Bd RP [l] H D [] H2 := ⟨ex2, DH, st_dt mo_RP (st2_ex h1 e2) e3 ⟨[], upd_same, .nil⟩⟩
  refine for_range (lo := 0) (n := n.toNat) (fun i σ H' => ∃ m4 m5 m6 T', σ = [some (.ref l), some (.int 4), some (.str (bstr b)), some (.ref D), m4, m5, m6] ∧ Bd RP [l] H D T' H' ∧ St2 H' l ∧ goodT i T') ⟨none, none, none, [], rfl, B2, h2, List.nodup_nil, (fun q hq => nomatch hq), Nat.le_refl _⟩ (fun i σ H3 hi hh => ?_) fun σ H3 hh => ?_
  · obtain ⟨m4, m5, m6, T', rfl, hB, hS, hG⟩ := hh
    refine ⟨_, rfl, _, rfl, _, _, rfl, rfl, l, 5, rfl, hS, by omega, by omega, fun d H4 e4 h4 d0 d1 => ?_⟩
    obtain ⟨dn, hdn⟩ : ∃ dn : Nat, d = (dn : Int) := ⟨d.toNat, by omega⟩
    obtain ⟨pp1, pp2, pp3⟩ := parts_pos dn (by omega)
    refine ⟨_, rfl, _, rfl, dn, dn, dn, lst2 (vint hdn) (vint hdn), by omega, by omega, by omega, by omega, fun v H5 e5 hv => ?_⟩
    obtain ⟨lp, us, rfl, hlp, hlp5, hA⟩ := hv
    have h5 := st2_ex h4 e5
    have ul : us.length = (partsOf dn).length := hA.len
    refine ⟨_, rfl, _, rfl, _, rfl, _, rfl, lp, us, rfl, .inl (SqL.of hlp5), l, _, rfl, h5, by omega, by omega, fun j H6 e6 h6 j0 j1 => ?_⟩
    obtain ⟨jn, hjn⟩ : ∃ jn : Nat, j = (jn : Int) := ⟨j.toNat, by omega⟩
    have jl : jn < (partsOf dn).length := by omega
    obtain ⟨pv, hpv, rpv⟩ := hA.get (List.getElem?_eq_getElem jl)
    have lpl : lp ≠ l := fun z => by
      obtain ⟨s, t, g, _⟩ := h4
      rw [z, g] at hlp
      cases hlp
    have hlp6 := e6 lp _ (fun z => lpl (List.mem_singleton.mp z)) hlp5
    refine ⟨lp, us, j, pv, rfl, rfl, SqL.of hlp6, by rw [hjn]; exact atI_nat hpv, _, rfl, l, rfl, h6, fun u k H7 e7 h7 k0 k1 ru => ?_⟩
    have im57 : Imm H5 H7 := (st_imm h5 e6).tr (st_imm h6 e7)
    have tab7 : Dt RP H7 D T' := st_dt mo_RP h6 e7 (st_dt mo_RP h5 e6 (Dt.mo mo_RP (st_dt mo_RP hS e4 hB.tab) e5))
    have ex7 : ExS [l] H H7 := (((hB.ex.trS e4).tr e5).trS e6).trS e7
    refine ⟨D, pv, u, T', (partsOf dn)[jn], k, rfl, tab7, mo_RT im57 rpv, ru, by have := hG.2.2; omega, fun H8 e8 h8 => ?_⟩
    have B7 : Bd RP [l] H D T' H7 := ⟨ex7, DH, tab7⟩
    refine ⟨_, _, _, _, rfl, B7.step e8 h8, ?_, good_plus hG (pp3 _ (List.getElem_mem jl))⟩
    obtain ⟨s, t, g1, g2, g3⟩ := h7
    exact ⟨s, t, e8 _ _ (fun z => lD (List.mem_singleton.mp z)) g1, g2, g3⟩
  · obtain ⟨m4, m5, m6, T', rfl, hB, hS, hG⟩ := hh
    refine ⟨_, rfl, _, rfl, t2, fun t ht => ?_⟩
    refine hQ b T' t D _ (hB.ex.tr (.nw ht)) (st2_ex hS (.nw ht)) upd_same (hB.tab.mo mo_RP (.nw ht)) DH ?_
    exact ⟨hG.1, hG.2.1, by have := hG.2.2; omega⟩
open RZ in
theorem lc_keysT {g : TG} {tt : TT} {te : TE} {vs : List Nat} {σ : L2.St} {H1 : Hp} {α β : Type} {Q : Rv α} {R : Rv β} {d : Addr} {o : Obj} {kvs : List (List Key × V)} {T : List (Pt × α)} (ha : H1 d = some (.frz o (.dT kvs))) (hd : TabV Q H1 kvs T) (F : Pt × α → Option β) (mQ : Mo Q) (mR : Mo R) (hn : T.length ≤ 100000)
    (hs : ∀ (i : Nat) (q : Pt × α) (v x : V) (H : Hp) (C : V → Hp → Prop) (N : Hp → Prop), T[i]? = some q → kvs[i]? = some (KI q.1, v) → Ex H1 H → Q H v q.2 → RT H x q.1 → (∀ b y H4, F q = some b → Ex H H4 → R H4 y b → C y H4) → (F q = none → ∀ H3, Ex H H3 → N H3) →
      g x (wipe σ vs) H fun σ2 H2 => wipe σ2 vs = wipe σ vs ∧ tt σ2 H2 fun b H3 => if b = true then te σ2 H3 C else N H3)
    {D : Addr} (nD : H1 D = none) {Qd : Hp → Prop} (hz : ∀ H acc, Ex H1 H → H D = some (.lst acc) → All R H acc (T.filterMap F) → Qd H) :
    ∃ W : Nat → Nat → Hp → Prop, (∃ m, W 0 m (upd H1 D (.lst []))) ∧ ∀ i m H, W i m H → ((Itkt d o kvs).stop i H ∧ Qd H) ∨ ((Itkt d o kvs).go i H ∧ ∃ Nx : Hp → Prop, (∀ H', Nx H' → ∃ m', m' < m ∧ W (i + 1) m' H') ∧
      ∀ x H', (Itkt d o kvs).yld i H x H' → g x (wipe σ vs) H' fun σ2 H2 => wipe σ2 vs = wipe σ vs ∧ tt σ2 H2 fun b H3 => if b = true then te σ2 H3 fun y H4 => ∃ acc, H4 D = some (.lst acc) ∧ acc.length < sizeLine ∧ Nx (upd H4 D (.lst (acc ++ [y]))) else Nx H3) := by
  refine lc_pure (R := R) (walk_keysT (d := d) (o := o) (kvs := kvs)) (fun i => T[i]?.bind F) mR (by rw [hd.len]; exact hn) (fun H e => e _ _ ha) (fun i x H H' C N hi e y c1 c2 => ?_) nD fun H acc e hD hA => hz H acc e hD ?_
  · obtain ⟨eH, k, v, q, h1, h2, h3⟩ := y
    subst eH h2
    have key : ∃ t : Pt × α, T[i]? = some t ∧ k = KI t.1 ∧ Q H1 v t.2 := by
      clear hs hz c1 c2 hi h3 ha hn
      induction hd generalizing i with
      | nil => simp at h1
      | @cons p t ps ts a u ih =>
        cases i with
        | zero =>
          simp at h1
          subst h1
          exact ⟨t, rfl, a⟩
        | succ i => simpa using ih i (by simpa using h1)
    obtain ⟨t, g1, g2, g3⟩ := key
    subst g2
    exact hs i t v _ H' C N g1 h1 e (mQ (.of e) g3) ⟨q, rfl, by rw [KI_kV] at h3; exact h3⟩ (fun b y H4 hb => c1 b y H4 (by rw [g1]; exact hb)) fun hb => c2 (by rw [g1]; exact hb)
  · rw [hd.len, range_data] at hA
    exact hA
theorem sp_ok {p : Pt} (h : p ∈ smallParts) : OkPt p ∧ p.length ≤ 1000 ∧ p.sum ≤ 8 := by
  have z : ∀ p ∈ smallParts, (∀ y ∈ p, 1 ≤ y) ∧ p.Pairwise (· ≥ ·) := by
    intro p hp
    have z : ∀ p ∈ smallParts, (∀ y ∈ p, 1 ≤ y) ∧ p.Pairwise (fun a b => b ≤ a) := by decide +kernel
    exact z p hp
  have z2 := sp_mem h
  have z3 : p.sum ≤ 4 := by
    have z : ∀ p ∈ smallParts, 0 ≤ p.sum ∧ p.sum ≤ 4 := by decide +kernel
    exact (z p h).2
  exact ⟨z p h, by omega, by omega⟩
def spMade (K : PySem.W.Frag) : Sp := fun vs H Q _ => ∃ (x : V) (b : SF.B) (T : Tb), vs = [x] ∧ RDr H x b T ∧ goodT 3 T ∧ ∀ v H', Ex H H' → RSy K H' v (b, addedParts T) → Q v H'
theorem sc_law_made : FnScope ["_law_drawn", "_law_part"] ["_law_drawn"] (defScope (top 74)) := ⟨rfl, rfl, rfl, by decide +kernel, rfl, by decide +kernel, by decide +kernel⟩
theorem ok_law_made (T : Tx K mg) : Cal P w K mg base 14 "_law_made" ["_law_drawn"] [] (spMade K) := by
  have c_law_ratio := ok_law_ratio (P := P) (w := w) (base := base) T
  have c_Symmetric := ok_Symmetric_init (P := P) (w := w) (base := base) T
  obtain ⟨fd, F⟩ := T.d 43 _ rfl
  have sc := sc_law_made
  refine ⟨_, fd, [], FunD.ok (k := 13) F sc (fun vs H Q E h => by obtain ⟨_, _, _, rfl, _⟩ := h; rfl) (fun cdv A outer s H vs Q E hr h => ?_), T.g "_law_made" (by decide +kernel), F.kp, FunD.bindsN F (fun _ _ _ _ _ _ us hl => match us, hl with | [_], _ => rfl), .nil⟩
  refine ⟨_, PSs.nox ((pss_one (ps_ret (pe_mk c_Symmetric (hr.mono (by decide)) (pa_cons (pe_ix ix_tup (pv 0) pe_int (fun _ _ => rfl)) (pa_cons (pe_lock (pe_lc (own := [("_law_part", 1)]) rfl sc.nd (pi_keys (pe_ix ix_tup (pv 0) pe_int (fun _ _ => rfl))) (blkOk_by (N := ["_law_drawn", "_law_part"]) (sc := defScope (top 74)) (by decide +kernel)) (fun _ _ _ _ _ => (pg_name (i := 1) sc.nd rfl (Or.inl rfl))) (fun _ _ _ _ _ => pts_nil) (fun _ _ _ _ _ => (pe_tup (pa_cons (pv 1) (pa_cons (pe_cg c_law_ratio (hr.mono (by decide)) (pa_cons (pe_dget (hu_of hr) (pe_ix (ix_tupK (K := K)) (pv 0) pe_int (fun _ _ => rfl)) (pv 1) (fun _ _ => rfl)) pa_nil)) pa_nil)))))) pa_nil)))))), ?_⟩
  obtain ⟨x, b, T', rfl, ⟨t, dt, rfl, ht, kd, hd1, hd2⟩, ⟨g1, g2, g3⟩, hQ⟩ := h
  refine ⟨_, rfl, t, _, _, _, rfl, rfl, SqT.of ht, atI_nat (j := 0) rfl, ?_⟩
  refine ⟨dt, _, hd1, trivial, fun od => ?_⟩
  have td : t ≠ dt := fun z => by rw [z, hd1] at ht; cases ht
  have ht0 : upd H dt (.frz od (.dT kd)) t = some (.tup [.str (bstr b), .ref dt]) := by rw [upd_ne td]; exact ht
  have im0 : Imm H (upd H dt (.frz od (.dT kd))) := .dT hd1
  refine ⟨_, rfl, t, _, _, _, rfl, rfl, SqT.of ht0, atI_nat (j := 1) rfl, dt, od, rfl, .inr ⟨kd, upd_same, fun D hD => ?_⟩⟩
  refine lc_keysT (R := RQ K) upd_same (hd2.mo mo_RP im0) (fun q => some q) mo_RP mo_RQ (by omega) (fun i q v y H1 C N hi hk e1 hv hy c1 c2 => ?_) hD (fun H1 acc e1 h1 hA => ?_)
  · have f1 := e1 _ _ (upd_same (H := H) (a := dt) (o := .frz od (.dT kd)))
    obtain ⟨vb, gb, rb⟩ := fz_at f1 (hd2.mo mo_RP (im0.tr (.of e1))) g1 (List.mem_of_getElem? hi) hy
    refine ⟨rfl, yes_of (iteT ⟨_, rfl, _, rfl, t, _, _, _, rfl, rfl, SqT.of (e1 _ _ ht0), atI_nat (j := 1) rfl, _, rfl, dt, vb, rfl, gb, vb, q.2, rfl, rb, fun w H2 e2 hw => ⟨t2, fun p hp => ?_⟩⟩)⟩
    exact c1 q _ _ rfl (e2.tr (.nw hp)) ⟨p, _, _, rfl, upd_same, mo_RT ((Imm.of e2).tr (.nw hp)) hy, mo_RR (.nw hp) hw⟩
  · rw [List.filterMap_some] at hA
    have f1 := e1 _ _ (upd_same (H := H) (a := dt) (o := .frz od (.dT kd)))
    have eL : Ex H (upd H1 dt (.dT kd)) := (ExS.free (S := []) (fun a o n h => e1 a o (by rw [upd_ne (fun z => n (by rw [z]; exact List.mem_cons_self ..))]; exact h)) hd1).ex
    have Dd : D ≠ dt := fun z => by rw [z, upd_same] at hD; cases hD
    refine ⟨f1, fun y dy hy hdy hne => ?_⟩
    have hyn := upd_none2 (o := HO.own y) hy hne
    refine ⟨y, dy, b, D, acc, T', rfl, upd_same, upd_new hyn (upd_new hdy (by rw [upd_ne Dd]; exact h1)), hA.mo mo_RQ (((Imm.frz f1).tr (.nw hdy)).tr (.nw hyn)), fun q hq => sp_ok (g2 q hq).1, by omega, fun H5 e5 h5 => ⟨rfl, hQ _ _ (eL.tr (mk_ex hy hdy e5)) h5⟩⟩
def polyOk (b : SF.B) (n : Nat) (p : Pt) : Bool := decide ((polyL b n p).length ≤ 100) && (decide (((polyL b n p).map (·.1)).Nodup) && (polyL b n p).all fun q => decide (q.1 ∈ uni) && (decide (q.1.length = n) && (decide (q.2 % 2 = 0) && (decide (-1000 < q.2) && decide (q.2 < 1000)))))
theorem poly_sp : ∀ (b : SF.B) (n : Nat), n ≤ 4 → ∀ p ∈ smallParts, polyOk b n p = true := by
  have z1 : ∀ n, n ≤ 4 → ∀ p ∈ smallParts, polyOk .m n p = true := by decide +kernel
  have z2 : ∀ n, n ≤ 4 → ∀ p ∈ smallParts, polyOk .e n p = true := by decide +kernel
  have z3 : ∀ n, n ≤ 4 → ∀ p ∈ smallParts, polyOk .h n p = true := by decide +kernel
  have z4 : ∀ n, n ≤ 4 → ∀ p ∈ smallParts, polyOk .p n p = true := by decide +kernel
  have z5 : ∀ n, n ≤ 4 → ∀ p ∈ smallParts, polyOk .s n p = true := by decide +kernel
  intro b
  cases b
  · exact z1
  · exact z2
  · exact z3
  · exact z4
  · exact z5
theorem okK_plus {T : Tb} {e : Pt} (c : Int) (h : OkK T) (he : e ∈ uni) : OkK (plus T e c) := by
  unfold plus
  split
  · exact ⟨nodup_drop _ h.1, fun k hk => by
      obtain ⟨q, h1, h2⟩ := List.mem_map.mp hk
      exact h.2 k (List.mem_map.mpr ⟨q, (List.mem_filter.mp h1).1, h2⟩)⟩
  · exact ⟨nodup_put _ _ h.1, fun k hk => (mem_put hk).elim (h.2 k) fun z => by rw [z]; exact he⟩
theorem okK_sum (f : Int) : ∀ (B A : Tb), OkK A → (∀ q ∈ B, q.1 ∈ uni) → OkK (sumT A B f) ∧ (sumT A B f).length ≤ A.length + B.length
  | [], A, h, _ => ⟨h, Nat.le_refl _⟩
  | q :: B, A, h, hb => by
    obtain ⟨h1, h2⟩ := okK_sum f B (plus A q.1 (f * (q.2 / 2))) (okK_plus _ h (hb q (List.mem_cons_self ..))) fun r hr => hb r (List.mem_cons_of_mem _ hr)
    have h3 := len_plus A q.1 (f * (q.2 / 2))
    exact ⟨h1, by rw [List.length_cons]; exact Nat.le_trans h2 (by omega)⟩
def spExpanded : Sp := fun vs H Q _ => ∃ (x : V) (b : SF.B) (T : Tb) (n : Nat), vs = [x, .int (n : Int)] ∧ RDr H x b T ∧ goodT 3 T ∧ n ≤ 4 ∧ ∀ v H', Ex H H' → NewD RP H H' v (expanded b T n) → Q v H'
theorem sc_law_expanded : FnScope ["_law_drawn", "_law_n", "_law_total", "_law_part"] ["_law_drawn", "_law_n"] (defScope (top 75)) := ⟨rfl, rfl, rfl, by decide +kernel, rfl, by decide +kernel, by decide +kernel⟩
theorem ok_law_expanded (T : Tx K mg) : Cal P w K mg base 12 "_law_expanded" ["_law_drawn", "_law_n"] [] (spExpanded) := by
  have c_law_polynomial := ok_law_polynomial (P := P) (w := w) (base := base) T
  have c_law_sum := ok_law_sum (P := P) (w := w) (base := base) T
  obtain ⟨fd, F⟩ := T.d 44 _ rfl
  have sc := sc_law_expanded
  refine ⟨_, fd, [], FunD.ok (k := 11) F sc (fun vs H Q E h => by obtain ⟨_, _, _, _, rfl, _⟩ := h; rfl) (fun cdv A outer s H vs Q E hr h => ?_), T.g "_law_expanded" (by decide +kernel), F.kp, FunD.bindsN F (fun _ _ _ _ _ _ us hl => match us, hl with | [_, _], _ => rfl), .nil⟩
  refine ⟨_, PSs.nox ((pss_cons (ps_set (i := 2) sc.nd rfl (Or.inl rfl) pe_dnewT)
  (pss_cons (ps_lock (ps_for PassesOwn.never rfl (pi_keys (pe_ix ix_tup (pv 0) pe_int (fun _ _ => rfl))) (pg_name (i := 3) sc.nd rfl (Or.inl rfl))
  (pss_one (ps_set (i := 2) sc.nd rfl (Or.inl rfl) (pe_cg c_law_sum (hr.mono (by decide)) (pa_cons (pv 2) (pa_cons (pe_cg c_law_polynomial (hr.mono (by decide)) (pa_cons (pe_ix ix_tup (pv 0) pe_int (fun _ _ => rfl)) (pa_cons (pv 1) (pa_cons (pv 3) pa_nil)))) (pa_cons (pe_dget (hu_of hr) (pe_ix ix_tup (pv 0) pe_int (fun _ _ => rfl)) (pv 3) (fun _ _ => rfl)) pa_nil))))))))
  (pss_one (ps_ret (pv 2)))))), ?_⟩
  obtain ⟨x, b, T', n, rfl, ⟨t, dt, rfl, ht, kd, hd1, hd2⟩, ⟨g1, g2, g3⟩, hn, hQ⟩ := h
  refine fun D hD => ?_
  have e0 : Ex H (upd H D (.dT [])) := .nw hD
  have dD : dt ≠ D := ne_of_none hd1 hD
  have td : t ≠ dt := fun z => by rw [z, hd1] at ht; cases ht
  refine ⟨dt, _, e0 _ _ hd1, trivial, fun od => ?_⟩
  have im0 : Imm H (upd (upd H D (.dT [])) dt (.frz od (.dT kd))) := (Imm.of e0).tr (.dT (e0 _ _ hd1))
  refine ⟨_, rfl, t, _, _, _, rfl, rfl, SqT.of (im0.tup _ _ ht), atI_nat (j := 1) rfl, dt, od, rfl, .inr ⟨kd, upd_same, ?_⟩⟩
  refine for_keysT (hd2.mo mo_RP im0) mo_RP (fun acc kv => sumT acc (polyL b n kv.1) kv.2) [] (fun i A σ H1 => ∃ D9 m3, σ = [some (.ref t), some (.int (n : Int)), some (.ref D9), m3] ∧ ExS [dt] H H1 ∧ H D9 = none ∧ Dt RP H1 D9 A ∧ H1 dt = some (.frz od (.dT kd)) ∧ Imm H H1 ∧ Imm (upd (upd H D (.dT [])) dt (.frz od (.dT kd))) H1 ∧ OkK A ∧ A.length ≤ i * 100) ⟨D, none, rfl, .lock (.of e0), hD, ⟨[], by rw [upd_ne (Ne.symm dD), upd_same], .nil⟩, upd_same, im0, .rf, ⟨List.nodup_nil, fun k hk => nomatch hk⟩, Nat.zero_le _⟩ (fun i A σ H1 h => ?_) (fun i A q v y σ H1 hi hk hv hy h => ?_) fun σ H1 h => ?_
  · obtain ⟨D9, m3, rfl, hE, hDn, hDt, h1, h2, h3, _⟩ := h
    exact ⟨h1, h3⟩
  · obtain ⟨D9, m3, rfl, hE, hDn, hDt, h1, h2, h3, hok, hA⟩ := h
    have hi2 := (List.getElem?_eq_some_iff.mp hi).1
    have hq : q ∈ T' := List.mem_of_getElem? hi
    have qs := (g2 q hq).1
    have pok := poly_sp b n hn q.1 qs
    obtain ⟨o1, pok⟩ := He.ba pok
    obtain ⟨o2, o3⟩ := He.ba pok
    have o1 := of_decide_eq_true o1
    have o2 := of_decide_eq_true o2
    have ht1 := h2.tup _ _ ht
    refine ⟨_, rfl, _, rfl, t, _, _, _, rfl, rfl, SqT.of ht1, atI_nat (j := 0) rfl, _, rfl, _, rfl, b, n, y, q.1, rfl, hn, hy, qs, fun v2 H2 e2 hv2 => ?_⟩
    obtain ⟨d2, rfl, hd2n, hd2t⟩ := hv2
    have im2 : Imm H H2 := h2.tr (.of e2)
    obtain ⟨vb, gb, rb⟩ := fz_at (e2 _ _ h1) (hd2.mo mo_RP im2) g1 hq (mo_RT (.of e2) hy)
    have ev : ∀ r ∈ polyL b n q.1, r.1 ∈ uni ∧ r.2 % 2 = 0 ∧ -(2 ^ 60) < r.2 ∧ r.2 < 2 ^ 60 := fun r hr => by
      obtain ⟨z1, z⟩ := He.ba (List.all_eq_true.mp o3 r hr)
      obtain ⟨z0, z⟩ := He.ba z
      obtain ⟨z2, z⟩ := He.ba z
      obtain ⟨z3, z4⟩ := He.ba z
      have z3 := of_decide_eq_true z3
      have z4 := of_decide_eq_true z4
      exact ⟨of_decide_eq_true z1, of_decide_eq_true z2, by omega, by omega⟩
    refine ⟨_, rfl, t, _, _, _, rfl, rfl, SqT.of (im2.tup _ _ ht), atI_nat (j := 1) rfl, _, rfl, dt, vb, rfl, gb, ?_⟩
    refine ⟨D9, d2, vb, A, polyL b n q.1, q.2, rfl, hDt.mo mo_RP e2, hd2t, rb, hok, by omega, by omega, fun r hr => (ev r hr).2, o2, fun v3 H3 e3 hv3 => ?_⟩
    obtain ⟨D8, rfl, hD8, hT8⟩ := hv3
    have e13 := e2.tr e3
    have D8H : H D8 = none := by
      have z2 : H1 D8 = none := e2.fr hD8
      cases q9 : H D8 with
      | none => rfl
      | some o =>
        by_cases z : D8 = dt
        · rw [z, h1] at z2
          cases z2
        · rw [hE D8 o (fun y => z (List.mem_singleton.mp y)) q9] at z2
          cases z2
    obtain ⟨k1, k2⟩ := okK_sum q.2 (polyL b n q.1) A hok fun r hr => (ev r hr).1
    exact ⟨D8, _, rfl, hE.tr e13, D8H, hT8, e13 _ _ h1, h2.tr (.of e13), h3.tr (.of e13), k1, by omega⟩
  · obtain ⟨D9, m3, rfl, hE, hDn, ⟨k9, t1, t2⟩, h1, h2, h3, _⟩ := h
    have D9d : D9 ≠ dt := fun z => by rw [z, hd1] at hDn; cases hDn
    exact ⟨h1, _, rfl, hQ _ _ (ExS.free hE hd1).ex ⟨D9, rfl, hDn, k9, by rw [upd_ne D9d]; exact t1, t2.mo mo_RP (.frz h1)⟩⟩
end
end FB
namespace FB
open PySem PySem.Spec PyProof.Rows L2 SF FR
section
variable {P : Program} {w : World} {K : PySem.W.Frag} {mg : Str → Option Value} {base : Heap}
def dueOf (E : Tb) : Tb := E.foldl (fun D kv => if sortD kv.1 = kv.1 then SF.put D (pos kv.1) kv.2 else D) []
/-- the law, with no program in sight -/
structure Pure (b1 : SF.B) (T1 : Tb) (b2 : SF.B) (T2 : Tb) (n : Nat) : Prop where
  v1 : okVal (addedParts T1)
  d1 : DownP (addedParts T1)
  l1 : (addedParts T1).length ≤ 40
  t1 : eqT (tableOf (addedParts T1)) T1 = true
  m1 : okM b1 (addedParts T1)
  m2 : okM b2 (addedParts T2)
  lm : okL (meaning b1 (addedParts T1))
  sm : ∀ q ∈ meaning b1 (addedParts T1), 0 ≤ q.1.sum ∧ q.1.sum ≤ 8
  vp : ∀ k, k ≤ 4 → okVal (polyF (meaning b1 (addedParts T1)) k) ∧ Down (polyF (meaning b1 (addedParts T1)) k) ∧ (polyF (meaning b1 (addedParts T1)) k).length ≤ 50000
  p4 : eqT (tableOf (polyF (meaning b1 (addedParts T1)) 4)) (expanded b1 T1 4) = true
  pn : eqT (tableOf (polyF (meaning b1 (addedParts T1)) n)) (expanded b1 T1 n) = true
  e4 : (expanded b1 T1 4).length ≤ 1000
  n4 : ((expanded b1 T1 4).map (·.1)).Nodup
  k4 : ∀ q ∈ expanded b1 T1 4, q.1.length ≤ 1000
  vm : okVal (addedParts (meaning b1 (addedParts T1)))
  dm : DownP (addedParts (meaning b1 (addedParts T1)))
  om : (addedParts (meaning b1 (addedParts T1))).length ≤ 40
  tm : eqT (tableOf (addedParts (meaning b1 (addedParts T1)))) (dueOf (expanded b1 T1 4)) = true
  eq : decide (meaning b1 (addedParts T1) = meaning b2 (addedParts T2)) = eqT (expanded b1 T1 4) (expanded b2 T2 4)
  em : meaning b1 (addedParts T1) = meaning .m (addedParts (meaning b1 (addedParts T1)))
  od : ∀ q ∈ dueOf (expanded b1 T1 4), OkPt q.1 ∧ q.1.length ≤ 1000 ∧ q.1.sum ≤ 8
  nd : ((dueOf (expanded b1 T1 4)).map (·.1)).Nodup
  ol : (dueOf (expanded b1 T1 4)).length ≤ 1000
  oa : (addedParts (dueOf (expanded b1 T1 4))).length ≤ 40
  ed : meaning .m (addedParts (dueOf (expanded b1 T1 4))) = meaning b1 (addedParts T1)
theorem RDr.st {H H' : Hp} {l : Addr} {v : V} {b : SF.B} {T : Tb} (h : RDr H v b T) (s : St2 H l) (e : ExS [l] H H') : RDr H' v b T := by
  obtain ⟨t, dt, h1, h2, h3⟩ := h
  exact ⟨t, dt, h1, (st_imm s e).tup _ _ h2, st_dt mo_RP s e h3⟩
theorem op_eqS {X : Cx} {k j : Nat} {ps : List Str} {sp : Sp} (c : CalM X.prog X.w X.K X.mg X.base k (He.ga X.K "Symmetric") "__eq__" ps [] sp) (hn : PySem.W.notFirst X.K (He.ga X.K "Symmetric") (.type "tuple") = true) (hr : Room j X.A) (hj : k ≤ j) : OpR X (compareOp .Eq) (rOwnEq (He.ga X.K "Symmetric") sp E0) := by
  obtain ⟨f, fd, us, h1, h2, h3, h4⟩ := c
  cases h4
  exact op_ownEq h1 (hr.mono hj) h2.at_ hn h2.fn h3 pass0
theorem neT_of {H : Hp} {Q : VK} {a b : Addr} {A C : Tb} (ha : Dt RP H a A) (hb : Dt RP H b C) (e : eqT A C = true) (q : Q (.bl false) H) : rEqT true (.ref a) (.ref b) H Q := by
  obtain ⟨k1, h1, h2⟩ := ha
  obtain ⟨k2, h3, h4⟩ := hb
  refine ⟨a, b, k1, k2, A, C, rfl, rfl, h1, h3, h2, h4, ?_⟩
  rw [if_pos rfl, e]
  exact q
theorem eqT_of {H : Hp} {Q : VK} {a b : Addr} {A C : Tb} (ha : Dt RP H a A) (hb : Dt RP H b C) (q : Q (.bl (eqT A C)) H) : rEqT false (.ref a) (.ref b) H Q := by
  obtain ⟨k1, h1, h2⟩ := ha
  obtain ⟨k2, h3, h4⟩ := hb
  refine ⟨a, b, k1, k2, A, C, rfl, rfl, h1, h3, h2, h4, ?_⟩
  rw [if_neg (by decide)]
  exact q
def spLaw (K : PySem.W.Frag) : Sp := fun vs H Q _ => ∃ (a : Addr) (ns : List Int), vs = [.ref a] ∧ SqL K H a (ns.map V.int) ∧ ns.length ≤ 1000 ∧ ∀ H', Q (.bl true) H'
/-- f == g by Symmetric's own == -/
theorem eqS_of {H : Hp} {Q : VK} {x y : V} {b b2 : SF.B} {M M2 : Tb} (h1 : RSy K H x (b, M)) (h2 : RSy K H y (b2, M2)) (o1 : okM b M) (o2 : okM b2 M2) (q : ∀ H', Ex H H' → Q (.bl (decide (meaning b M = meaning b2 M2))) H') : rOwnEq (He.ga K "Symmetric") (spSeq K) E0 x y H Q := by
  obtain ⟨a, dx, t, rfl, ha, hA⟩ := id h1
  obtain ⟨c, dy, u, rfl, hc, hC⟩ := id h2
  exact ⟨a, dx, _, rfl, ha, .inl ⟨c, dy, _, rfl, hc⟩, _, _, b, M, rfl, h1, .inr ⟨b2, M2, h2, o1, o2, q⟩⟩
theorem sc_law : FnScope ["_law_script", "_law_state_here", "_law_one", "_law_two", "_law_f", "_law_g", "_law_first", "_law_second", "_law_n", "_law_due", "_law_v", "_law_meaning", "_law_item_here", "_law_part"] ["_law_script"] (defScope (top 77)) := ⟨rfl, rfl, rfl, by decide +kernel, rfl, by decide +kernel, by decide +kernel⟩
theorem ok_law (T : Tx K mg) (pure : ∀ (b1 : SF.B) (T1 : Tb) (b2 : SF.B) (T2 : Tb) (n : Nat), goodT 3 T1 → goodT 3 T2 → n ≤ 3 → Pure b1 T1 b2 T2 n) {fd : FuncData} (F : FunD K d_law.name d_law.qual d_law.params d_law.body d_law.scope (d_law.dvs K) (d_law.kws K) (He.fAd K d_law.at_) fd) : FnOk P w K mg base CX0 17 (He.fAd K d_law.at_) fd ["_law_script"] (spLaw K) := by
  have c_law_state := ok_law_state (P := P) (w := w) (base := base) T
  have c_law_function := ok_law_function (P := P) (w := w) (base := base) T
  have c_law_made := ok_law_made (P := P) (w := w) (base := base) T
  have c_law_expanded := ok_law_expanded (P := P) (w := w) (base := base) T
  have c_law_terms := ok_law_terms (P := P) (w := w) (base := base) T
  have c_law_take := ok_law_take (P := P) (w := w) (base := base) T
  have c_law_table := ok_law_table (P := P) (w := w) (base := base) T
  have c_law_ratio := ok_law_ratio (P := P) (w := w) (base := base) T
  have c_polynomial := ok_Symmetric_polynomial (P := P) (w := w) (base := base) T
  have c_meaning := ok_Symmetric_meaning (P := P) (w := w) (base := base) T
  have c_eqS := ok_Symmetric_eq (P := P) (w := w) (base := base) T
  have c_Symmetric := ok_Symmetric_init (P := P) (w := w) (base := base) T
  have sc := sc_law
  refine FunD.ok (k := 16) F sc (fun vs H Q E h => by obtain ⟨_, _, rfl, _⟩ := h; rfl) (fun cdv A outer s H vs Q E hr h => ?_)
  refine ⟨_, PSs.nox ((pss_cons (ps_set (i := 1) sc.nd rfl (Or.inl rfl) (pe_cg c_law_state (hr.mono (by decide)) (pa_cons (pv 0) pa_nil)))
  (pss_cons (ps_par (i := 2) (j := 3) (by rfl) sc.nd rfl rfl (by decide) rfl rfl (pa_cons (pe_cg c_law_function (hr.mono (by decide)) (pa_cons (pv 1) (pa_cons pe_int pa_nil))) (pa_cons (pe_cg c_law_function (hr.mono (by decide)) (pa_cons (pv 1) (pa_cons pe_int pa_nil))) pa_nil)) (by rfl))
  (pss_cons (ps_par (i := 4) (j := 5) (by rfl) sc.nd rfl rfl (by decide) rfl rfl (pa_cons (pe_cg c_law_made (hr.mono (by decide)) (pa_cons (pv 2) pa_nil)) (pa_cons (pe_cg c_law_made (hr.mono (by decide)) (pa_cons (pv 3) pa_nil)) pa_nil)) (by rfl))
  (pss_cons (ps_par (i := 6) (j := 7) (by rfl) sc.nd rfl rfl (by decide) rfl rfl (pa_cons (pe_cg c_law_expanded (hr.mono (by decide)) (pa_cons (pv 2) (pa_cons pe_int pa_nil))) (pa_cons (pe_cg c_law_expanded (hr.mono (by decide)) (pa_cons (pv 3) (pa_cons pe_int pa_nil))) pa_nil)) (by rfl))
  (pss_cons (ps_if (PW.pt (pw_or (pt_cmpR (op_neT (hr.mono (by decide))) (pe_cg c_law_terms (hr.mono (by decide)) (pa_cons (pv 4) pa_nil)) (pe_ix ix_tup (pv 2) pe_int (fun _ _ => rfl)) (nomark _)) (pw_or1 (pt_cmpR op_ne (pe_fld (pv 4) rfl) (pe_ix ix_tup (pv 2) pe_int (fun _ _ => rfl)) (nomark _)))))
  (pss_one (ps_ret pe_bl)) pss_nil)
  (pss_cons (ps_set (i := 8) sc.nd rfl (Or.inl rfl) (pe_cg c_law_take (hr.mono (by decide)) (pa_cons (pv 1) (pa_cons pe_int pa_nil))))
  (pss_cons (ps_if (PW.pt (pw_or (pt_cmpR (op_neT (hr.mono (by decide))) (pe_cg c_law_table (hr.mono (by decide)) (pa_cons (pe_mg (pv 4) T.cS c_polynomial (hr.mono (by decide)) (pa_cons pe_int pa_nil)) pa_nil)) (pv 6) (nomark _)) (pw_or1 (pt_cmpR (op_neT (hr.mono (by decide))) (pe_cg c_law_table (hr.mono (by decide)) (pa_cons (pe_mg (pv 4) T.cS c_polynomial (hr.mono (by decide)) (pa_cons (pv 8) pa_nil)) pa_nil)) (pe_cg c_law_expanded (hr.mono (by decide)) (pa_cons (pv 2) (pa_cons (pv 8) pa_nil))) (nomark _)))))
  (pss_one (ps_ret pe_bl)) pss_nil)
  (pss_cons (ps_set (i := 9) sc.nd rfl (Or.inr rfl) pe_dnewT)
  (pss_cons (ps_lock (ps_for PassesOwn.never rfl (pi_keys (pv 6)) (pg_name (i := 10) sc.nd rfl (Or.inl rfl))
  (pss_one (ps_if (pt_cmpR (op_eqD hr.units) (pe_callBK (cr_sortedU (b := true)) (by rfl) (T.f "sorted" (by decide +kernel)) (by decide +kernel) (pa_cons (pv 10) pa_nil) (pk_cons pe_bl pk_nil)) (pe_callTy call_list_of (by rfl) (T.f "list" (by decide +kernel)) (by decide +kernel) (pa_cons (pv 10) pa_nil)) (nomark _))
  (pss_one (ps_dput (hu_of hr) (pv 9) (pe_callTy call_tuple_of (by rfl) (T.f "tuple" (by decide +kernel)) (by decide +kernel) (pa_cons (pe_lc (own := [("_law_item_here", 12)]) rfl sc.nd (pi_tup (pv 10)) (blkOk_by (N := ["_law_script", "_law_state_here", "_law_one", "_law_two", "_law_f", "_law_g", "_law_first", "_law_second", "_law_n", "_law_due", "_law_v", "_law_meaning", "_law_item_here", "_law_part"]) (sc := defScope (top 77)) (by decide +kernel)) (fun _ _ _ _ _ => (pg_name (i := 12) sc.nd rfl (Or.inl rfl))) (fun _ _ _ _ _ => (pts_one (pt_cmpR op_gt (pv 12) pe_int (nomark _)))) (fun _ _ _ _ _ => (pv 12))) pa_nil)) (pe_dget (hu_of hr) (pv 6) (pv 10) (fun _ _ => rfl)) rfl)) pss_nil))))
  (pss_cons (ps_set (i := 11) sc.nd rfl (Or.inl rfl) (pe_mg0 (pv 4) T.cS c_meaning (hr.mono (by decide))))
  (pss_cons (ps_if (PW.pt (pw_or (pt_cmpR op_ne (pe_fld (pv 11) rfl) pe_str (nomark _)) (pw_or1 (pt_cmpR (op_neT (hr.mono (by decide))) (pe_cg c_law_terms (hr.mono (by decide)) (pa_cons (pv 11) pa_nil)) (pv 9) (nomark _)))))
  (pss_one (ps_ret pe_bl)) pss_nil)
  (pss_cons (ps_if (PW.pt (pw_or (pt_cmpR op_ne (pe_cmpR (op_eqS c_eqS T.ntupS hr (by decide)) (pv 4) (pv 5) (nomark _)) (pe_cmpR (op_eqT (hr.mono (by decide))) (pv 6) (pv 7) (nomark _)) (nomark _)) (pw_or (pt_not (pt_cmpR (op_eqS c_eqS T.ntupS hr (by decide)) (pv 4) (pv 11) (nomark _))) (pw_or1 (pt_cmpR (op_eqS c_eqS T.ntupS hr (by decide)) (pv 4) (pe_fld (pv 4) rfl) (nomark _))))))
  (pss_one (ps_ret pe_bl)) pss_nil)
  (pss_one (ps_ret (pe_cmpR (op_eqS c_eqS T.ntupS hr (by decide)) (pe_mk c_Symmetric (hr.mono (by decide)) (pa_cons pe_str (pa_cons (pe_lock (pe_lc (own := [("_law_part", 13)]) rfl sc.nd (pi_keys (pv 9)) (blkOk_by (N := ["_law_script", "_law_state_here", "_law_one", "_law_two", "_law_f", "_law_g", "_law_first", "_law_second", "_law_n", "_law_due", "_law_v", "_law_meaning", "_law_item_here", "_law_part"]) (sc := defScope (top 77)) (by decide +kernel)) (fun _ _ _ _ _ => (pg_name (i := 13) sc.nd rfl (Or.inl rfl))) (fun _ _ _ _ _ => pts_nil) (fun _ _ _ _ _ => (pe_tup (pa_cons (pv 13) (pa_cons (pe_cg c_law_ratio (hr.mono (by decide)) (pa_cons (pe_dget (hu_of hr) (pv 9) (pv 13) (fun _ _ => rfl)) pa_nil)) pa_nil)))))) pa_nil))) (pv 4) (nomark _))))))))))))))))), ?_⟩
  obtain ⟨sa, ns, rfl, hsa, hns, hQ⟩ := h
  refine ⟨_, rfl, sa, ns, rfl, hsa, hns, fun l H1 e1 hl s1 => ?_⟩
  -- the two functions
  refine ⟨_, rfl, l, rfl, s1, fun b1 T1 o1 dt1 H2 e2 s2 ho1 hd1 hn1 g1 => ?_⟩
  have r1 : RDr H2 (.ref o1) b1 T1 := ⟨o1, dt1, rfl, ho1, hd1⟩
  refine ⟨_, rfl, l, rfl, s2, fun b2 T2 o2 dt2 H3 e3 s3 ho2 hd2 hn2 g2 => ?_⟩
  have r1 := r1.st s2 e3
  have r2 : RDr H3 (.ref o2) b2 T2 := ⟨o2, dt2, rfl, ho2, hd2⟩
  refine ⟨_, _, rfl, ?_⟩
  refine ⟨_, rfl, .ref o1, b1, T1, rfl, r1, g1, fun f H4 e4 hf => ?_⟩
  refine ⟨_, rfl, .ref o2, b2, T2, rfl, r2.ex e4, g2, fun g H5 e5 hg => ?_⟩
  refine ⟨_, _, rfl, ?_⟩
  have e35 := e4.tr e5
  have hf := mo_RSy (.of e5) hf
  have r1 := r1.ex e35
  have r2 := r2.ex e35
  have s5 := st2_ex s3 e35
  refine ⟨_, rfl, .ref o1, b1, T1, 4, rfl, r1, g1, by omega, fun v1 H6 e6 hv1 => ?_⟩
  obtain ⟨a1, rfl, ha1n, ha1⟩ := hv1
  refine ⟨_, rfl, .ref o2, b2, T2, 4, rfl, r2.ex e6, g2, by omega, fun v2 H7 e7 hv2 => ?_⟩
  obtain ⟨a2, rfl, ha2n, ha2⟩ := hv2
  refine ⟨_, _, rfl, ?_⟩
  have e57 := e6.tr e7
  have hf := mo_RSy (.of e57) hf
  have hg := mo_RSy (.of e57) hg
  have r1 := r1.ex e57
  have s7 := st2_ex s5 e57
  have ha1 := ha1.mo mo_RP e7
  clear e1 e2 e3 e4 e5 e6 e7 e35 e57 r2 s1 s2 s3 s5 ho1 hd1 ho2 hd2 hn1 hn2 ha1n ha2n hsa
  -- its terms
  have pu0 := pure b1 T1 b2 T2 0 g1 g2 (by omega)
  refine ⟨_, rfl, f, b1, _, rfl, hf, pu0.v1, pu0.d1, by have := pu0.l1; omega, fun v8 H8 e8 hv8 => ?_⟩
  obtain ⟨d8, rfl, hd8n, hd8⟩ := hv8
  obtain ⟨t1, dt1', et1, ht1, hdt1⟩ := r1.ex e8
  cases et1
  refine ⟨_, rfl, o1, _, _, _, rfl, rfl, SqT.of ht1, atI_nat (j := 1) rfl, neT_of hd8 hdt1 pu0.t1 ⟨_, rfl, iteF ?_⟩⟩
  have hf8 := mo_RSy (.of e8) hf
  obtain ⟨af, dxf, tf, rfl, haf, hMf⟩ := id hf8
  refine ⟨_, rfl, af, _, dxf, _, _, rfl, haf, T.cS, T.nSb, rfl, _, rfl, o1, _, _, _, rfl, rfl, SqT.of ht1, atI_nat (j := 0) rfl, rfl, _, rfl, ifF (by rw [decide_eq_true rfl]; rfl) ?_⟩
  -- the letters
  refine ⟨_, rfl, l, 4, rfl, st2_ex s7 e8, by omega, by omega, fun nI H9 e9 s9 n0 n4 => ?_⟩
  obtain ⟨n, rfl⟩ : ∃ n : Nat, nI = (n : Int) := ⟨nI.toNat, by omega⟩
  have s8 := st2_ex s7 e8
  have im89 := st_imm s8 e9
  have hf9 := mo_RSy im89 hf8
  have hg9 := mo_RSy im89 (mo_RSy (.of e8) hg)
  have r9 := (r1.ex e8).st s8 e9
  have ha1 := st_dt mo_RP s8 e9 (ha1.mo mo_RP e8)
  have ha2 := st_dt mo_RP s8 e9 (ha2.mo mo_RP e8)
  have pu := pure b1 T1 b2 T2 n g1 g2 (by omega)
  clear e8 e9 im89 hf8 hf hg s7 s8 hd8 hd8n haf hMf ht1 hdt1 r1 pu0
  obtain ⟨af', dx9, tf9, ea9, ha9, hM9⟩ := id hf9
  cases ea9
  refine ⟨_, rfl, af, dx9, _, rfl, ha9, rfl, .ref af, 4, b1, _, rfl, by omega, hf9, pu.m1, pu.lm.2, pu.sm, fun v10 H10 e10 hv10 => ?_⟩
  obtain ⟨w1, w2, w3⟩ := pu.vp 4 (by omega)
  refine ⟨v10, _, _, rfl, hv10, w1, w2, w3, fun v11 H11 e11 hv11 => ?_⟩
  obtain ⟨d11, rfl, _, hd11⟩ := hv11
  have e911 := e10.tr e11
  refine ⟨_, rfl, neT_of hd11 (ha1.mo mo_RP e911) pu.p4 ⟨_, rfl, iteF ?_⟩⟩
  refine ⟨_, rfl, af, dx9, _, rfl, e911 _ _ ha9, rfl, _, rfl, .ref af, n, b1, _, rfl, by omega, mo_RSy (.of e911) hf9, pu.m1, pu.lm.2, pu.sm, fun v12 H12 e12 hv12 => ?_⟩
  obtain ⟨w1, w2, w3⟩ := pu.vp n (by omega)
  refine ⟨v12, _, _, rfl, hv12, w1, w2, w3, fun v13 H13 e13 hv13 => ?_⟩
  obtain ⟨d13, rfl, _, hd13⟩ := hv13
  have e913 := e911.tr (e12.tr e13)
  refine ⟨_, rfl, _, rfl, .ref o1, b1, T1, n, rfl, r9.ex e913, g1, by omega, fun v14 H14 e14 hv14 => ?_⟩
  obtain ⟨a14, rfl, _, ha14⟩ := hv14
  refine neT_of (hd13.mo mo_RP e14) ha14 pu.pn ⟨_, rfl, iteF ?_⟩
  have e914 := e913.tr e14
  have hf := mo_RSy (.of e914) hf9
  have hg := mo_RSy (.of e914) hg9
  have ha1 := ha1.mo mo_RP e914
  have ha2 := ha2.mo mo_RP e914
  clear e10 e11 e12 e13 e14 e911 e913 e914 hd11 hd13 ha14 hv10 hv12 r9 s9 hf9 hg9 ha9 hM9 w1 w2 w3
  -- what is due
  refine fun D hD => ?_
  obtain ⟨k1, hk1, hk2⟩ := id ha1
  have eD : Ex H14 (upd H14 D (.dT [])) := .nw hD
  have aD : a1 ≠ D := ne_of_none hk1 hD
  refine ⟨a1, _, eD _ _ hk1, trivial, fun od => ⟨_, rfl, a1, od, rfl, .inr ⟨k1, upd_same, ?_⟩⟩⟩
  have im0 : Imm H14 (upd (upd H14 D (.dT [])) a1 (.frz od (.dT k1))) := (Imm.of eD).tr (.dT (eD _ _ hk1))
  have B0 : Bd RP [a1] H14 D [] (upd (upd H14 D (.dT [])) a1 (.frz od (.dT k1))) := ⟨.lock (.of eD), hD, [], by rw [upd_ne (Ne.symm aD), upd_same], .nil⟩
  refine for_keysT (hk2.mo mo_RP im0) mo_RP (fun D kv => if sortD kv.1 = kv.1 then SF.put D (pos kv.1) kv.2 else D) [] (fun i T' σ H' => ∃ m10 m11 m12 m13, σ = [some (.ref sa), some (.ref l), some (.ref o1), some (.ref o2), some (.ref af), some g, some (.ref a1), some (.ref a2), some (.int (n : Int)), some (.ref D), m10, m11, m12, m13] ∧ Bd RP [a1] H14 D T' H' ∧ H' a1 = some (.frz od (.dT k1)) ∧ Imm H14 H' ∧ Imm (upd (upd H14 D (.dT [])) a1 (.frz od (.dT k1))) H' ∧ T'.length ≤ i) ⟨none, none, none, none, rfl, B0, upd_same, im0, .rf, Nat.le_refl _⟩ (fun i T' σ H1 h => ?_) (fun i T' q v y σ H1 hi hk hv hy h => ?_) fun σ H1 h => ?_
  · obtain ⟨m10, m11, m12, m13, rfl, hB, h1, h2, h3, _⟩ := h
    exact ⟨h1, h3⟩
  · obtain ⟨m10, m11, m12, m13, rfl, hB, h1, h2, h3, hT⟩ := h
    have hi2 := (List.getElem?_eq_some_iff.mp hi).1
    have hq := List.mem_of_getElem? hi
    have e4 := pu.e4
    obtain ⟨ty, rfl, hty⟩ := id hy
    refine ⟨_, rfl, ty, _, rfl, rfl, SqT.of hty, fun ns' q1 pm od hq1 => ?_⟩
    have es := sortD_uniq pm od
    subst es
    have ty1 := upd_new (o := .lst ((sortD q.1).map V.int)) hq1 hty
    refine ⟨_, rfl, ty, _, rfl, .inr (SqT.of ty1), fun q2 hq2 => ?_⟩
    have e12 := (Ex.nw (o := HO.lst ((sortD q.1).map V.int)) hq1).tr (Ex.nw (o := HO.lst (q.1.map V.int)) hq2)
    refine eqL_of (upd_new hq2 upd_same) upd_same ⟨_, rfl, ?_⟩
    by_cases hh : sortD q.1 = q.1
    · refine ifT (decide_eq_true hh) ?_
      obtain ⟨vb, gb, rb⟩ := fz_at (e12 _ _ h1) (hk2.mo mo_RP (h2.tr (.of e12))) pu.n4 hq ⟨ty, rfl, e12 _ _ hty⟩
      refine ⟨_, rfl, _, rfl, a1, vb, rfl, gb, _, rfl, _, rfl, ty, rfl, ⟨_, SqT.of (e12 _ _ hty)⟩, fun L hL => ?_⟩
      refine lc_seqT (R := RI) (SqT.of (e12 _ _ hty)) (all_ints _ q.1) (fun x => if 0 < x then some x else none) mo_RI mo_RI (by have := pu.k4 q hq; omega) (fun j d z H4 C N hd e4 hz c1 c2 => ?_) hL (fun H4 acc e4 h4 hAc => ?_)
      · have hz' : z = .int d := hz
        subst hz'
        refine ⟨rfl, _, rfl, _, _, rfl, rfl, _, rfl, ?_⟩
        by_cases hp : 0 < d
        · exact ifT (decide_eq_true hp) ⟨_, rfl, c1 d _ _ (if_pos hp) .rf rfl⟩
        · exact ifF (decide_eq_false hp) (c2 (if_neg hp) _ .rf)
      · rw [fm_pos] at hAc
        have ea := all_RI hAc
        refine ⟨L, _, rfl, .inl ⟨SqL.of h4, fun t5 ht5 => ?_⟩⟩
        have e15 := e12.tr (e4.tr (Ex.nw (o := HO.tup acc) ht5))
        have B5 := hB.grow mo_RP e15
        obtain ⟨H6, p1, p2, p3⟩ := dt_put mo_RP B5.tab (by omega) (y := .ref t5) (e := pos q.1) ⟨t5, rfl, by rw [upd_same, ea]⟩ (mo_RP ((Imm.of e4).tr (.nw ht5)) rb)
        refine ⟨D, H6, rfl, p1, _, _, _, _, rfl, ?_⟩
        rw [if_pos hh]
        have im := (Imm.of e15).tr (B5.imm p2)
        refine ⟨B5.step p2 p3, p2 _ _ (fun z => aD (List.mem_singleton.mp z)) (e15 _ _ h1), h2.tr im, h3.tr im, ?_⟩
        have := len_put T' (pos q.1) q.2
        omega
    · refine ifF (decide_eq_false hh) ⟨_, _, _, _, rfl, ?_⟩
      rw [if_neg hh]
      exact ⟨hB.grow mo_RP e12, e12 _ _ h1, h2.tr (.of e12), h3.tr (.of e12), by omega⟩
  obtain ⟨m10, m11, m12, m13, rfl, hB, h1, h2, h3, _⟩ := h
  refine ⟨h1, ?_⟩
  have eU : Ex H14 (upd H1 a1 (.dT k1)) := (ExS.free (S := []) hB.ex hk1).ex
  have hDue : Dt RP (upd H1 a1 (.dT k1)) D (dueOf (expanded b1 T1 4)) := by
    obtain ⟨kd, d1, d2⟩ := hB.tab
    exact ⟨kd, by rw [upd_ne (Ne.symm aD)]; exact d1, d2.mo mo_RP (.frz h1)⟩
  have hf := mo_RSy (.of eU) hf
  have hg := mo_RSy (.of eU) hg
  have ha1 := ha1.mo mo_RP eU
  have ha2 := ha2.mo mo_RP eU
  generalize upd H1 a1 (.dT k1) = H2 at hf hg ha1 ha2 hDue
  clear eU hB h1 h2 h3 B0 im0 eD hk1 hk2 hD
  -- the meaning
  obtain ⟨af', dx9, tf9, ea9, ha9, hM9⟩ := id hf
  cases ea9
  refine ⟨_, rfl, af, dx9, _, rfl, ha9, rfl, .ref af, b1, _, rfl, hf, pu.m1, pu.lm, fun me H3 e3 hme => ?_⟩
  obtain ⟨am, dxm, tm, rfl, ham, hMm⟩ := id hme
  have hf3 := mo_RSy (.of e3) hf
  have hDue3 := hDue.mo mo_RP e3
  refine ⟨_, rfl, am, _, dxm, _, _, rfl, ham, T.cS, T.nSb, rfl, rfl, _, rfl, ifF rfl ?_⟩
  refine ⟨_, rfl, .ref am, .m, _, rfl, hme, pu.vm, pu.dm, by have := pu.om; omega, fun v4 H4 e4 hv4 => ?_⟩
  obtain ⟨d4, rfl, _, hd4⟩ := hv4
  refine ⟨_, rfl, neT_of hd4 (hDue3.mo mo_RP e4) pu.tm ⟨_, rfl, iteF ?_⟩⟩
  have e24 := e3.tr e4
  have hf4 := mo_RSy (.of e24) hf
  have hg4 := mo_RSy (.of e24) hg
  have hme4 := mo_RSy (.of e4) hme
  have ha1 := ha1.mo mo_RP e24
  have ha2 := ha2.mo mo_RP e24
  have okm : okM .m (addedParts (meaning b1 (addedParts T1))) := ⟨pu.om, fun z => absurd rfl z⟩
  -- equal or not
  refine ⟨_, rfl, _, rfl, eqS_of hf4 hg4 pu.m1 pu.m2 fun H5 e5 => ?_⟩
  refine ⟨_, rfl, _, rfl, eqT_of (ha1.mo mo_RP e5) (ha2.mo mo_RP e5) ?_⟩
  refine ⟨rfl, _, rfl, ?_⟩
  rw [pu.eq, decide_eq_true rfl]
  refine iteF ⟨_, rfl, _, rfl, eqS_of (mo_RSy (.of e5) hf4) (mo_RSy (.of e5) hme4) pu.m1 okm fun H6 e6 => ⟨_, rfl, ?_⟩⟩
  rw [decide_eq_true pu.em]
  have e46 := e5.tr e6
  have hf6 := mo_RSy (.of e46) hf4
  obtain ⟨af', dx6, tf6, ea6, ha6, ⟨tt6, us6, rfl, htt6, hA6⟩⟩ := id hf6
  cases ea6
  refine iteF ⟨_, rfl, _, rfl, af, _, dx6, _, _, rfl, ha6, T.cS, T.nSt, rfl, ?_⟩
  refine ⟨af, dx6, _, rfl, ha6, .inr ⟨tt6, us6, rfl, htt6⟩, .ref af, .ref tt6, b1, _, rfl, hf6, .inl ⟨tt6, us6, rfl, htt6, _, rfl, iteF ?_⟩⟩
  -- the last
  have hDue6 := (hDue3.mo mo_RP e4).mo mo_RP e46
  obtain ⟨kd, hd1, hd2⟩ := id hDue6
  refine ⟨D, _, hd1, trivial, fun od => ?_⟩
  have im0 : Imm H6 (upd H6 D (.frz od (.dT kd))) := .dT hd1
  refine ⟨_, rfl, D, od, rfl, .inr ⟨kd, upd_same, fun L hL => ?_⟩⟩
  refine lc_keysT (R := RQ K) upd_same (hd2.mo mo_RP im0) (fun q => some q) mo_RP mo_RQ (by have := pu.ol; omega) (fun i q v y H7 C N hi hk e7 hv hy c1 c2 => ?_) hL (fun H7 acc e7 h7 hA => ?_)
  · have f1 := e7 _ _ (upd_same (H := H6) (a := D) (o := .frz od (.dT kd)))
    obtain ⟨vb, gb, rb⟩ := fz_at f1 (hd2.mo mo_RP (im0.tr (.of e7))) pu.nd (List.mem_of_getElem? hi) hy
    refine ⟨rfl, yes_of (iteT ⟨_, rfl, _, rfl, _, rfl, D, vb, rfl, gb, vb, q.2, rfl, rb, fun w H8 e8 hw => ⟨t2, fun p hp => ?_⟩⟩)⟩
    exact c1 q _ _ rfl (e8.tr (.nw hp)) ⟨p, _, _, rfl, upd_same, mo_RT ((Imm.of e8).tr (.nw hp)) hy, mo_RR (.nw hp) hw⟩
  · rw [List.filterMap_some] at hA
    have f1 := e7 _ _ (upd_same (H := H6) (a := D) (o := .frz od (.dT kd)))
    have eL : Ex H6 (upd H7 D (.dT kd)) := (ExS.free (S := []) (fun a o n h => e7 a o (by rw [upd_ne (fun z => n (by rw [z]; exact List.mem_cons_self ..))]; exact h)) hd1).ex
    have Ld : L ≠ D := fun z => by rw [z, upd_same] at hL; cases hL
    refine ⟨f1, fun y dy hy hdy hne => ?_⟩
    have hyn := upd_none2 (o := HO.own y) hy hne
    refine ⟨y, dy, .m, L, acc, _, rfl, upd_same, upd_new hyn (upd_new hdy (by rw [upd_ne Ld]; exact h7)), hA.mo mo_RQ (((Imm.frz f1).tr (.nw hdy)).tr (.nw hyn)), pu.od, by have := pu.ol; omega, fun H9 e9 h9 => ⟨rfl, ?_⟩⟩
    have hf9 := mo_RSy (.of (eL.tr (mk_ex hy hdy e9))) hf6
    refine ⟨_, rfl, eqS_of h9 hf9 ⟨pu.oa, fun z => absurd rfl z⟩ pu.m1 fun H10 e10 => ?_⟩
    rw [decide_eq_true pu.ed]
    exact hQ H10
end
end FB
namespace FB
open SF FR
def look (T : Tb) (p : Pt) : Int := (SF.get T p).getD 0
theorem get_cons (x : Pt × Int) (T : Tb) (p : Pt) : SF.get (x :: T) p = if x.1 = p then some x.2 else SF.get T p := by
  unfold SF.get
  rw [List.find?_cons]
  by_cases h : x.1 = p
  · rw [decide_eq_true h, if_pos h]; rfl
  · rw [decide_eq_false h, if_neg h]
theorem get_nil (p : Pt) : SF.get ([] : Tb) p = none := rfl
theorem get_app (k : Pt) (v : Int) (p : Pt) : ∀ T : Tb, SF.get (T ++ [(k, v)]) p = match SF.get T p with
    | some x => some x
    | none => if k = p then some v else none
  | [] => by rw [List.nil_append, get_cons, get_nil]
  | x :: T => by
    rw [List.cons_append, get_cons, get_cons, get_app k v p T]
    split <;> rfl
theorem get_map (k : Pt) (v : Int) (p : Pt) : ∀ T : Tb, SF.get (T.map fun kv => if kv.1 = k then (kv.1, v) else kv) p = if p = k then (SF.get T k).map (fun _ => v) else SF.get T p
  | [] => by
    show (none : Option Int) = if p = k then (none : Option Int).map (fun _ => v) else none
    split <;> rfl
  | x :: T => by
    rw [List.map_cons, get_cons, get_map k v p T, get_cons, get_cons]
    by_cases h1 : x.1 = k
    · by_cases h2 : p = k
      · simp [h1, h2]
      · have h3 : ¬ k = p := fun e => h2 e.symm
        simp [h1, h2, h3]
    · by_cases h2 : p = k
      · subst h2
        simp [h1]
      · simp [h1, h2]
theorem any_get (k : Pt) : ∀ T : Tb, (T.any fun kv => decide (kv.1 = k)) = (SF.get T k).isSome
  | [] => rfl
  | x :: T => by
    rw [List.any_cons, any_get k T, get_cons]
    by_cases h : x.1 = k
    · rw [decide_eq_true h, if_pos h]; rfl
    · rw [decide_eq_false h, if_neg h, Bool.false_or]
theorem get_put (T : Tb) (k : Pt) (v : Int) (p : Pt) : SF.get (SF.put T k v) p = if p = k then some v else SF.get T p := by
  unfold SF.put
  rw [any_get]
  cases h : SF.get T k with
  | none =>
    rw [if_neg (by decide), get_app]
    by_cases e : p = k
    · subst e
      rw [h]
    · have e2 : ¬ k = p := fun z => e z.symm
      rw [if_neg e, if_neg e2]
      cases SF.get T p <;> rfl
  | some x =>
    rw [if_pos (show (some x).isSome = true from rfl), get_map, h]
    rfl
theorem get_drop (k p : Pt) : ∀ T : Tb, SF.get (SF.drop T k) p = if p = k then none else SF.get T p
  | [] => by
    show SF.get [] p = _
    rw [get_nil]; split <;> rfl
  | x :: T => by
    have ih := get_drop k p T
    unfold SF.drop at ih ⊢
    by_cases h : x.1 = k
    · rw [List.filter_cons_of_neg (by simpa using h), ih, get_cons]
      by_cases e : p = k
      · rw [if_pos e, if_pos e]
      · rw [if_neg e, if_neg e, if_neg (fun z => e (by rw [← z, h]))]
    · rw [List.filter_cons_of_pos (by simpa using h), get_cons, ih, get_cons]
      by_cases e : p = k
      · rw [if_pos e, if_pos e, if_neg (fun z => h (by rw [z, e]))]
      · rw [if_neg e, if_neg e]
theorem look_put (T : Tb) (k : Pt) (v : Int) (p : Pt) : look (SF.put T k v) p = if p = k then v else look T p := by
  unfold look
  rw [get_put]
  split <;> rfl
theorem look_plus (T : Tb) (e : Pt) (c : Int) (p : Pt) : look (plus T e c) p = look T p + if p = e then c else 0 := by
  unfold plus
  split
  · rename_i h
    unfold look
    rw [get_drop]
    by_cases z : p = e
    · rw [if_pos z, if_pos z, z]
      show (0 : Int) = _
      omega
    · rw [if_neg z, if_neg z, Int.add_zero]
  · rw [look_put]
    by_cases z : p = e
    · rw [if_pos z, if_pos z, z]; rfl
    · rw [if_neg z, if_neg z, Int.add_zero]
theorem look_bump (T : Tb) (e : Pt) (c : Int) (p : Pt) : look (SF.bump T e c) p = look T p + if p = e then c else 0 := by
  unfold SF.bump
  rw [look_put]
  by_cases z : p = e
  · rw [if_pos z, if_pos z, z]; rfl
  · rw [if_neg z, if_neg z, Int.add_zero]
def lsum (g : Pt × Int → Int) (B : Tb) : Int := B.foldr (fun q s => g q + s) 0
theorem lsum_cons (g : Pt × Int → Int) (q : Pt × Int) (B : Tb) : lsum g (q :: B) = g q + lsum g B := rfl
theorem lsum_congr {g h : Pt × Int → Int} : ∀ {B : Tb}, (∀ q ∈ B, g q = h q) → lsum g B = lsum h B
  | [], _ => rfl
  | q :: B, e => by rw [lsum_cons, lsum_cons, e q (List.mem_cons_self ..), lsum_congr fun r hr => e r (List.mem_cons_of_mem _ hr)]
theorem lsum_app (g : Pt × Int → Int) : ∀ A B : Tb, lsum g (A ++ B) = lsum g A + lsum g B
  | [], B => by show _ = 0 + _; rw [Int.zero_add]; rfl
  | q :: A, B => by rw [List.cons_append, lsum_cons, lsum_cons, lsum_app g A B, Int.add_assoc]
theorem lsum_flat (g : Pt × Int → Int) (F : Pt × Int → Tb) : ∀ T : Tb, lsum g (T.flatMap F) = lsum (fun q => lsum g (F q)) T
  | [] => rfl
  | q :: T => by rw [List.flatMap_cons, lsum_app, lsum_cons, lsum_flat g F T]
theorem lsum_perm {g : Pt × Int → Int} {A B : Tb} (h : A.Perm B) : lsum g A = lsum g B := by
  induction h with
  | nil => rfl
  | cons x _ ih => rw [lsum_cons, lsum_cons, ih]
  | swap x y l => rw [lsum_cons, lsum_cons, lsum_cons, lsum_cons]; omega
  | trans _ _ i j => rw [i, j]
theorem lsum_zero {g : Pt × Int → Int} : ∀ {B : Tb}, (∀ q ∈ B, g q = 0) → lsum g B = 0
  | [], _ => rfl
  | q :: B, e => by rw [lsum_cons, e q (List.mem_cons_self ..), lsum_zero fun r hr => e r (List.mem_cons_of_mem _ hr)]; rfl
theorem get_none {T : Tb} {p : Pt} (h : p ∉ T.map (·.1)) : SF.get T p = none := by
  induction T with
  | nil => rfl
  | cons x T ih =>
    rw [get_cons, if_neg (fun e => h (by rw [← e]; exact List.mem_cons_self ..))]
    exact ih fun z => h (List.mem_cons_of_mem _ z)
theorem look_none {T : Tb} {p : Pt} (h : p ∉ T.map (·.1)) : look T p = 0 := by unfold look; rw [get_none h]; rfl
/-- the one entry at v -/
theorem lsum_one (g : Pt × Int → Int) (v : Pt) : ∀ {B : Tb}, (B.map (·.1)).Nodup → lsum (fun q => if v = q.1 then g q else 0) B = match SF.get B v with
    | some c => g (v, c)
    | none => 0
  | [], _ => rfl
  | q :: B, nd => by
    have nd' : (q.1 :: B.map (·.1)).Nodup := nd
    obtain ⟨n1, n2⟩ := List.nodup_cons.mp nd'
    rw [lsum_cons, get_cons]
    by_cases h : v = q.1
    · have z : lsum (fun q => if v = q.1 then g q else 0) B = 0 := lsum_zero fun r hr => by
        rw [if_neg (fun e => n1 (by rw [← h, e]; exact List.mem_map.mpr ⟨r, hr, rfl⟩))]
      rw [if_pos h, z, if_pos h.symm, Int.add_zero]
      subst h
      rfl
    · rw [if_neg h, if_neg (fun e => h e.symm), Int.zero_add]
      exact lsum_one g v n2
theorem lsum_look {B : Tb} (nd : (B.map (·.1)).Nodup) (v : Pt) : lsum (fun q => if v = q.1 then q.2 else 0) B = look B v := by
  rw [lsum_one (fun q => q.2) v nd]
  unfold look
  cases SF.get B v <;> rfl
theorem look_sumT (f : Int) (v : Pt) : ∀ (B A : Tb), look (sumT A B f) v = look A v + lsum (fun q => if v = q.1 then f * (q.2 / 2) else 0) B
  | [], A => by show look A v = _ + 0; rw [Int.add_zero]
  | q :: B, A => by
    show look (sumT (plus A q.1 (f * (q.2 / 2))) B f) v = _
    rw [look_sumT f v B, look_plus, lsum_cons, Int.add_assoc]
theorem look_addT (v : Pt) : ∀ (L T : Tb), look (L.foldl (fun T kv => SF.bump T kv.1 kv.2) T) v = look T v + lsum (fun q => if v = q.1 then q.2 else 0) L
  | [], T => by show look T v = _ + 0; rw [Int.add_zero]
  | q :: L, T => by rw [List.foldl_cons, look_addT v L, look_bump, lsum_cons, Int.add_assoc]
theorem look_addTable (L : Tb) (v : Pt) : look (addTable L) v = lsum (fun q => if v = q.1 then q.2 else 0) L := by
  unfold addTable
  rw [look_addT]
  show (0 : Int) + _ = _
  rw [Int.zero_add]
def keepL (f : Pt → Int) (p : Pt) : Option (Pt × Int) := if f p = 0 then none else some (p, f p)
theorem keepOf_L (T : Tb) : keepOf T = keepL (look T) := funext fun p => by
  unfold keepOf keepL look
  cases SF.get T p with
  | none => rfl
  | some c => rfl
theorem get_keep (f : Pt → Int) (p : Pt) : ∀ l : List Pt, SF.get (l.filterMap (keepL f)) p = if p ∈ l ∧ f p ≠ 0 then some (f p) else none
  | [] => by rw [List.filterMap_nil, get_nil, if_neg (fun h => nomatch h.1)]
  | x :: l => by
    by_cases h : f x = 0
    · rw [List.filterMap_cons_none (by unfold keepL; rw [if_pos h]), get_keep f p l]
      by_cases c : p ∈ l ∧ f p ≠ 0
      · rw [if_pos c, if_pos ⟨List.mem_cons_of_mem _ c.1, c.2⟩]
      · rw [if_neg c, if_neg]
        intro ⟨c1, c2⟩
        rcases List.mem_cons.mp c1 with e | e
        · exact c2 (by rw [e]; exact h)
        · exact c ⟨e, c2⟩
    · rw [List.filterMap_cons_some (b := (x, f x)) (by unfold keepL; rw [if_neg h]), get_cons, get_keep f p l]
      by_cases e : x = p
      · subst e
        rw [if_pos rfl, if_pos ⟨List.mem_cons_self .., h⟩]
      · rw [if_neg e]
        by_cases c : p ∈ l ∧ f p ≠ 0
        · rw [if_pos c, if_pos ⟨List.mem_cons_of_mem _ c.1, c.2⟩]
        · rw [if_neg c, if_neg]
          intro ⟨c1, c2⟩
          rcases List.mem_cons.mp c1 with e' | e'
          · exact e e'.symm
          · exact c ⟨e', c2⟩
theorem keys_keep (f : Pt → Int) : ∀ l : List Pt, (l.filterMap (keepL f)).map (·.1) = l.filter fun p => decide (f p ≠ 0)
  | [] => rfl
  | x :: l => by
    by_cases h : f x = 0
    · rw [List.filterMap_cons_none (by unfold keepL; rw [if_pos h]), List.filter_cons_of_neg (by simpa using h), keys_keep f l]
    · rw [List.filterMap_cons_some (b := (x, f x)) (by unfold keepL; rw [if_neg h]), List.filter_cons_of_pos (by simpa using h), List.map_cons, keys_keep f l]
theorem nz_keep (f : Pt → Int) (l : List Pt) : okVal (l.filterMap (keepL f)) := fun q hq => by
  obtain ⟨p, _, e⟩ := List.mem_filterMap.mp hq
  unfold keepL at e
  split at e
  · cases e
  · cases e; assumption
theorem look_keep (f : Pt → Int) (l : List Pt) (p : Pt) : look (l.filterMap (keepL f)) p = if p ∈ l then f p else 0 := by
  unfold look
  rw [get_keep]
  by_cases h : p ∈ l
  · rw [if_pos h]
    by_cases c : f p = 0
    · rw [if_neg (fun z => z.2 c), c]; rfl
    · rw [if_pos ⟨h, c⟩]; rfl
  · rw [if_neg h, if_neg (fun z => h z.1)]; rfl
theorem fm_congr {f g : Pt → Option (Pt × Int)} : ∀ {l : List Pt}, (∀ p ∈ l, f p = g p) → l.filterMap f = l.filterMap g
  | [], _ => rfl
  | x :: l, h => by
    have ih := fm_congr (l := l) fun p hp => h p (List.mem_cons_of_mem _ hp)
    have hx := h x (List.mem_cons_self ..)
    cases e : g x with
    | none => rw [List.filterMap_cons_none (by rw [hx, e]), List.filterMap_cons_none e, ih]
    | some y => rw [List.filterMap_cons_some (by rw [hx, e]), List.filterMap_cons_some e, ih]
def canon (f : Pt → Int) : Tb := smallParts.filterMap (keepL f)
theorem sp_nodup : smallParts.Nodup := by decide +kernel
theorem canon_nodup (f : Pt → Int) : ((canon f).map (·.1)).Nodup := by
  unfold canon
  rw [keys_keep]
  exact List.Pairwise.filter _ sp_nodup
theorem canon_nz (f : Pt → Int) : okVal (canon f) := nz_keep f _
theorem canon_mem {f : Pt → Int} {q : Pt × Int} (h : q ∈ canon f) : q.1 ∈ smallParts := by
  have z : q.1 ∈ (canon f).map (·.1) := List.mem_map.mpr ⟨q, h, rfl⟩
  unfold canon at z
  rw [keys_keep] at z
  exact (List.mem_filter.mp z).1
theorem canon_look (f : Pt → Int) (p : Pt) : look (canon f) p = if p ∈ smallParts then f p else 0 := look_keep f _ p
theorem canon_len (f : Pt → Int) : (canon f).length ≤ 12 := Nat.le_trans (List.length_filterMap_le _ _) (by decide +kernel)
theorem canon_ext {f g : Pt → Int} (h : ∀ p ∈ smallParts, f p = g p) : canon f = canon g := by
  unfold canon
  refine fm_congr fun p hp => ?_
  unfold keepL
  rw [h p hp]
theorem canon_inj {f g : Pt → Int} (h : canon f = canon g) (p : Pt) (hp : p ∈ smallParts) : f p = g p := by
  have z := canon_look f p
  rw [h, canon_look, if_pos hp, if_pos hp] at z
  exact z.symm
theorem pairs_down : smallParts.Pairwise fun p q => -q.sum < -p.sum ∨ (-q.sum = -p.sum ∧ q < p) := by decide +kernel
theorem canon_down (f : Pt → Int) : DownP (canon f) := fun i p q h1 h2 => by
  have pw : ((canon f).map (·.1)).Pairwise fun p q => -q.sum < -p.sum ∨ (-q.sum = -p.sum ∧ q < p) := by
    unfold canon
    rw [keys_keep]
    exact List.Pairwise.filter _ pairs_down
  rw [List.pairwise_map] at pw
  obtain ⟨a1, a2⟩ := List.getElem?_eq_some_iff.mp h1
  obtain ⟨b1, b2⟩ := List.getElem?_eq_some_iff.mp h2
  have z := List.pairwise_iff_getElem.mp pw i (i + 1) a1 b1 (by omega)
  rw [a2, b2] at z
  exact z
/-! ### lists within lists -/
theorem sub_len : ∀ (l u : List Pt), l.Nodup → (∀ x ∈ l, x ∈ u) → l.length ≤ u.length
  | [], u, _, _ => Nat.zero_le _
  | x :: l, u, nd, h => by
    obtain ⟨n1, n2⟩ := List.nodup_cons.mp nd
    have hx := h x (List.mem_cons_self ..)
    have z := sub_len l (u.erase x) n2 fun y hy => (List.mem_erase_of_ne (fun e => n1 (by rw [← e]; exact hy))).mpr (h y (List.mem_cons_of_mem _ hy))
    rw [List.length_erase_of_mem hx] at z
    have : 0 < u.length := List.length_pos_of_mem hx
    rw [List.length_cons]
    omega
theorem mem_keys {T : Tb} (nd : (T.map (·.1)).Nodup) (nz : okVal T) (p : Pt) : p ∈ T.map (·.1) ↔ look T p ≠ 0 := by
  constructor
  · intro h
    obtain ⟨v, h1, h2⟩ := get_of_mem nd h
    unfold look
    rw [h1]
    exact nz _ h2
  · intro h
    by_cases z : p ∈ T.map (·.1)
    · exact z
    · exact absurd (look_none z) h
theorem eqT_true {A C : Tb} (na : (A.map (·.1)).Nodup) (nc : (C.map (·.1)).Nodup) (za : okVal A) (zc : okVal C) (h : ∀ p, look A p = look C p) : eqT A C = true := by
  unfold eqT
  have ka : ∀ p, p ∈ A.map (·.1) ↔ p ∈ C.map (·.1) := fun p => by rw [mem_keys na za, mem_keys nc zc, h]
  have l1 := sub_len _ _ na fun x hx => (ka x).mp hx
  have l2 := sub_len _ _ nc fun x hx => (ka x).mpr hx
  rw [List.length_map, List.length_map] at l1 l2
  rw [Bool.and_eq_true]
  refine ⟨by rw [beq_iff_eq]; omega, List.all_eq_true.mpr fun q hq => ?_⟩
  have gq := get_mem na hq
  obtain ⟨c, hc, _⟩ := get_of_mem nc ((ka q.1).mp (List.mem_map.mpr ⟨q, hq, rfl⟩))
  rw [hc]
  have z := h q.1
  unfold look at z
  rw [gq, hc] at z
  exact decide_eq_true z
theorem eqT_look {A C : Tb} (na : (A.map (·.1)).Nodup) (nc : (C.map (·.1)).Nodup) (h : eqT A C = true) (p : Pt) : look A p = look C p := by
  unfold eqT at h
  rw [Bool.and_eq_true, beq_iff_eq] at h
  obtain ⟨hl, ha⟩ := h
  have at_ : ∀ q ∈ A, SF.get C q.1 = some q.2 := fun q hq => by
    have z := List.all_eq_true.mp ha q hq
    cases e : SF.get C q.1 with
    | none => rw [e] at z; cases z
    | some c => rw [e] at z; rw [of_decide_eq_true z]
  have sub : ∀ x ∈ A.map (·.1), x ∈ C.map (·.1) := fun x hx => by
    obtain ⟨q, hq, e⟩ := List.mem_map.mp hx
    by_cases z : x ∈ C.map (·.1)
    · exact z
    · have g := at_ q hq
      rw [e, get_none z] at g
      cases g
  by_cases hp : p ∈ A.map (·.1)
  · obtain ⟨v, g, m⟩ := get_of_mem na hp
    have g2 := at_ _ m
    unfold look
    rw [g, g2]
  · have hc : p ∉ C.map (·.1) := fun z => by
      have l := sub_len (p :: A.map (·.1)) (C.map (·.1)) (List.nodup_cons.mpr ⟨hp, na⟩) fun x hx => by
        rcases List.mem_cons.mp hx with e | e
        · rw [e]; exact z
        · exact sub x e
      rw [List.length_cons, List.length_map, List.length_map] at l
      omega
    rw [look_none hp, look_none hc]
theorem tableOf_nodup : ∀ (L T : Tb), ((T ++ L).map (·.1)).Nodup → L.foldl (fun T kv => SF.put T kv.1 kv.2) T = T ++ L
  | [], T, _ => by rw [List.append_nil]; rfl
  | q :: L, T, h => by
    have hq : q.1 ∉ T.map (·.1) := fun z => by
      rw [List.map_append, List.map_cons] at h
      exact (List.nodup_append.mp h).2.2 q.1 z q.1 (List.mem_cons_self ..) rfl
    have e : SF.put T q.1 q.2 = T ++ [q] := by
      unfold SF.put
      rw [any_get, get_none hq, if_neg (by decide)]
    rw [List.foldl_cons, e, tableOf_nodup L (T ++ [q]) (by rw [List.append_assoc]; exact h), List.append_assoc]
    rfl
theorem tableOf_eq {M : Tb} (h : (M.map (·.1)).Nodup) : tableOf M = M := by
  unfold tableOf
  rw [tableOf_nodup M [] h, List.nil_append]
end FB
namespace FB
open SF FR
/-! ### finite facts -/
def Co (b : SF.B) (p μ : Pt) : Int := if μ ∈ partsOf p.sum.toNat then coefIn b p μ else 0
def chkP (n : Nat) (Q Cs : Tb) : Bool := uni.all fun v => decide (look Q v = 2 * (if v.length = n then look Cs (desc v) else 0))
def chkB (b : SF.B) (p : Pt) (Cs : Tb) : Bool := (List.range 5).all fun n => chkP n (polyL b n p) Cs
theorem chk_m : ∀ p ∈ smallParts, chkB .m p ((partsOf p.sum.toNat).map fun μ => (μ, coefIn .m p μ)) = true := by decide +kernel
theorem chk_e : ∀ p ∈ smallParts, chkB .e p ((partsOf p.sum.toNat).map fun μ => (μ, coefIn .e p μ)) = true := by decide +kernel
theorem chk_h : ∀ p ∈ smallParts, chkB .h p ((partsOf p.sum.toNat).map fun μ => (μ, coefIn .h p μ)) = true := by decide +kernel
theorem chk_p : ∀ p ∈ smallParts, chkB .p p ((partsOf p.sum.toNat).map fun μ => (μ, coefIn .p p μ)) = true := by decide +kernel
theorem chk_s : ∀ p ∈ smallParts, chkB .s p ((partsOf p.sum.toNat).map fun μ => (μ, coefIn .s p μ)) = true := by decide +kernel
theorem mean_m : ∀ b, b ∈ [SF.B.e, .h, .p, .s] → ∀ p ∈ smallParts, meanOk b p = true := by decide +kernel
theorem get_mk (h : Pt → Int) (v : Pt) : ∀ l : List Pt, SF.get (l.map fun μ => (μ, h μ)) v = if v ∈ l then some (h v) else none
  | [] => by rw [List.map_nil, get_nil, if_neg (fun z => nomatch z)]
  | x :: l => by
    rw [List.map_cons, get_cons, get_mk h v l]
    by_cases e : x = v
    · subst e
      rw [if_pos rfl, if_pos (List.mem_cons_self ..)]
    · rw [if_neg e]
      by_cases c : v ∈ l
      · rw [if_pos c, if_pos (List.mem_cons_of_mem _ c)]
      · rw [if_neg c, if_neg (fun z => (List.mem_cons.mp z).elim (fun y => e y.symm) c)]
theorem poly_look (b : SF.B) {n : Nat} (hn : n ≤ 4) {p v : Pt} (hp : p ∈ smallParts) (hv : v ∈ uni) : look (polyL b n p) v / 2 = if v.length = n then Co b p (desc v) else 0 := by
  have z : chkB b p ((partsOf p.sum.toNat).map fun μ => (μ, coefIn b p μ)) = true := by
    cases b
    · exact chk_m p hp
    · exact chk_e p hp
    · exact chk_h p hp
    · exact chk_p p hp
    · exact chk_s p hp
  have z2 := List.all_eq_true.mp z n (List.mem_range.mpr (by omega))
  have z3 := of_decide_eq_true (List.all_eq_true.mp z2 v hv)
  have lk : look ((partsOf p.sum.toNat).map fun μ => (μ, coefIn b p μ)) (desc v) = Co b p (desc v) := by
    unfold look Co
    rw [get_mk]
    split <;> rfl
  rw [z3, lk, Int.mul_ediv_cancel_left _ (by decide)]
theorem desc_sp : ∀ v ∈ uni, desc v ∈ smallParts := by decide +kernel
theorem parts_sp : ∀ p ∈ smallParts, p ∈ partsOf p.sum.toNat ∧ ∀ μ ∈ partsOf p.sum.toNat, μ ∈ smallParts := by decide +kernel
theorem parts_nd : ∀ p ∈ smallParts, (partsOf p.sum.toNat).Nodup := by decide +kernel
theorem exps_nd : ∀ n, n ≤ 4 → ∀ p ∈ smallParts, (exps n p.sum.toNat).Nodup ∧ ∀ v ∈ exps n p.sum.toNat, v ∈ uni := by decide +kernel
theorem exps_at : ∀ n, n ≤ 4 → ∀ μ ∈ smallParts, ∀ v ∈ uni, decide (v ∈ exps n μ.sum.toNat ∧ desc v = μ) = decide (v.length = n ∧ desc v = μ) := by decide +kernel
def pad (μ : Pt) : Pt := μ ++ List.replicate (4 - μ.length) 0
theorem pad_sp : ∀ μ ∈ smallParts, pad μ ∈ uni ∧ sortD (pad μ) = pad μ ∧ pos (pad μ) = μ ∧ desc (pad μ) = μ ∧ (pad μ).length = 4 := by decide +kernel
theorem pos_pad : ∀ v ∈ uni, v.length = 4 → sortD v = v → pad (pos v) = v ∧ pos v ∈ smallParts := by decide +kernel
theorem nine : (List.range 9).flatMap partsOf = smallParts ++ [5, 6, 7, 8].flatMap partsOf := by decide +kernel
theorem big_parts : ∀ p ∈ [5, 6, 7, 8].flatMap partsOf, p ∉ smallParts := by decide +kernel
end FB
namespace FB
open SF FR
def lin (b : SF.B) (T : Tb) (μ : Pt) : Int := lsum (fun q => q.2 * Co b q.1 μ) T
/-- all keys are partitions of at most 4 -/
def InP (L : Tb) : Prop := ∀ q ∈ L, q.1 ∈ smallParts
theorem addTable_out {L : Tb} (h : InP L) {p : Pt} (hp : p ∉ smallParts) : look (addTable L) p = 0 := look_none fun z => by
  obtain ⟨q, h1, h2⟩ := List.mem_map.mp (addTable_sub L p z)
  exact hp (by rw [← h2]; exact h q h1)
theorem fm_flat {α : Type} (F : Pt → Option (Pt × Int)) (G : α → List Pt) : ∀ l : List α, l.flatMap (fun d => (G d).filterMap F) = (l.flatMap G).filterMap F
  | [] => rfl
  | x :: l => by rw [List.flatMap_cons, List.flatMap_cons, List.filterMap_append, fm_flat F G l]
theorem addedParts_eq {L : Tb} (h : InP L) : addedParts L = canon (look (addTable L)) := by
  unfold addedParts
  rw [keepOf_L, fm_flat, nine, List.filterMap_append]
  have z : ([5, 6, 7, 8].flatMap partsOf).filterMap (keepL (look (addTable L))) = [] := by
    rw [List.filterMap_eq_nil_iff]
    intro p hp
    unfold keepL
    rw [if_pos (addTable_out h (big_parts p hp))]
  rw [z, List.append_nil]
  rfl
theorem addTable_look {L : Tb} (nd : (L.map (·.1)).Nodup) (p : Pt) : look (addTable L) p = look L p := by rw [look_addTable, lsum_look nd]
theorem added_nd {L : Tb} (h : InP L) (nd : (L.map (·.1)).Nodup) : addedParts L = canon (look L) := by
  rw [addedParts_eq h]
  exact canon_ext fun p _ => addTable_look nd p
theorem canon_inP (f : Pt → Int) : InP (canon f) := fun _ h => canon_mem h
theorem canon_self (f : Pt → Int) : addedParts (canon f) = canon f := by
  rw [added_nd (canon_inP f) (canon_nodup f)]
  exact canon_ext fun p hp => by rw [canon_look, if_pos hp]
theorem nodup_of_map {T : Tb} (h : (T.map (·.1)).Nodup) : T.Nodup := by
  induction T with
  | nil => exact List.nodup_nil
  | cons q T ih =>
    obtain ⟨h1, h2⟩ := List.nodup_cons.mp (show (q.1 :: T.map (·.1)).Nodup from h)
    exact List.nodup_cons.mpr ⟨fun m => h1 (List.mem_map.mpr ⟨q, m, rfl⟩), ih h2⟩
theorem get_in {T : Tb} {p : Pt} {k : Int} (h : SF.get T p = some k) : (p, k) ∈ T := by
  unfold SF.get at h
  obtain ⟨q, h1, h2⟩ := Option.map_eq_some_iff.mp h
  have z := List.find?_some h1
  have e : q.1 = p := of_decide_eq_true z
  have m := List.mem_of_find?_eq_some h1
  rw [← e, ← h2]
  exact m
theorem canon_perm {T : Tb} (h : InP T) (nd : (T.map (·.1)).Nodup) (nz : okVal T) : (canon (look T)).Perm T := by
  refine (List.perm_ext_iff_of_nodup (nodup_of_map (canon_nodup _)) (nodup_of_map nd)).mpr fun q => ?_
  constructor
  · intro hq
    have g := get_mem (canon_nodup _) hq
    unfold canon at g
    rw [get_keep] at g
    split at g
    · rename_i c
      have e : look T q.1 = q.2 := Option.some.inj g
      have hk := (mem_keys nd nz q.1).mpr c.2
      obtain ⟨v, g1, g2⟩ := get_of_mem nd hk
      unfold look at e
      rw [g1] at e
      have e' : v = q.2 := e
      rw [e'] at g2
      exact g2
    · cases g
  · intro hq
    have g := get_mem nd hq
    have lk : look T q.1 = q.2 := by unfold look; rw [g]; rfl
    have g2 : SF.get (canon (look T)) q.1 = some q.2 := by
      unfold canon
      rw [get_keep, if_pos ⟨h q hq, by rw [lk]; exact nz q hq⟩, lk]
    exact get_in g2
theorem lin_canon (b : SF.B) {T : Tb} (h : InP T) (nd : (T.map (·.1)).Nodup) (nz : okVal T) (μ : Pt) : lin b (canon (look T)) μ = lin b T μ := lsum_perm (canon_perm h nd nz)
/-- one hit -/
theorem lsum_hit (h : Pt → Int) (μ : Pt) {l : List Pt} (nd : l.Nodup) : lsum (fun q => if μ = q.1 then q.2 else 0) (l.map fun ν => (ν, h ν)) = if μ ∈ l then h μ else 0 := by
  have n2 : ((l.map fun ν => (ν, h ν)).map (·.1)).Nodup := by
    rw [List.map_map]
    have e : ((fun x : Pt × Int => x.1) ∘ fun ν => (ν, h ν)) = id := rfl
    rw [e, List.map_id]
    exact nd
  rw [lsum_look n2]
  unfold look
  rw [get_mk]
  split <;> rfl
/-- the meaning of what T holds -/
theorem meaning_eq (b : SF.B) {M : Tb} (h : InP M) : meaning b M = canon (lin b M) := by
  unfold meaning
  by_cases bm : b = .m
  · rw [if_pos bm, addedParts_eq h]
    refine canon_ext fun μ hμ => ?_
    rw [look_addTable]
    refine lsum_congr fun q hq => ?_
    have hp := (parts_sp q.1 (h q hq)).1
    unfold Co coefIn
    rw [if_pos bm]
    by_cases e : μ = q.1
    · rw [if_pos e, if_pos (by rw [e]; exact hp), if_pos e.symm, Int.mul_one]
    · rw [if_neg e]
      split
      · rw [if_neg (fun z => e z.symm), Int.mul_zero]
      · rw [Int.mul_zero]
  · rw [if_neg bm]
    have hin : InP (M.flatMap fun kv => (partsOf kv.1.sum.toNat).map fun μ => (μ, kv.2 * coefIn b kv.1 μ)) := fun q hq => by
      obtain ⟨kv, h1, h2⟩ := List.mem_flatMap.mp hq
      obtain ⟨μ, h3, rfl⟩ := List.mem_map.mp h2
      exact (parts_sp kv.1 (h kv h1)).2 μ h3
    rw [addedParts_eq hin]
    refine canon_ext fun μ hμ => ?_
    rw [look_addTable, lsum_flat]
    refine lsum_congr fun q hq => ?_
    rw [lsum_hit (fun ν => q.2 * coefIn b q.1 ν) μ (parts_nd q.1 (h q hq))]
    unfold Co
    split
    · rfl
    · rw [Int.mul_zero]
/-! ### the law's own polynomials -/
theorem lsum_half (f : Int) (v : Pt) {B : Tb} (nd : (B.map (·.1)).Nodup) : lsum (fun q => if v = q.1 then f * (q.2 / 2) else 0) B = f * (look B v / 2) := by
  rw [lsum_one (fun q => f * (q.2 / 2)) v nd]
  unfold look
  cases SF.get B v with
  | none => show (0 : Int) = f * (0 / 2); rw [Int.zero_ediv, Int.mul_zero]
  | some c => rfl
theorem look_exp (b : SF.B) {n : Nat} (hn : n ≤ 4) {v : Pt} (hv : v ∈ uni) : ∀ (T A : Tb), InP T → look (T.foldl (fun acc kv => sumT acc (polyL b n kv.1) kv.2) A) v = look A v + (if v.length = n then lin b T (desc v) else 0)
  | [], A, _ => by
    show look A v = look A v + (if v.length = n then 0 else 0)
    split <;> omega
  | q :: T, A, h => by
    rw [List.foldl_cons, look_exp b hn hv T _ fun r hr => h r (List.mem_cons_of_mem _ hr), look_sumT]
    have hq := h q (List.mem_cons_self ..)
    have pok := poly_sp b n hn q.1 hq
    obtain ⟨_, pok⟩ := He.ba pok
    obtain ⟨o2, _⟩ := He.ba pok
    rw [lsum_half q.2 v (of_decide_eq_true o2), poly_look b hn hq hv]
    unfold lin
    rw [lsum_cons]
    split
    · rw [Int.add_assoc]
    · rw [Int.mul_zero]; omega
theorem expanded_look (b : SF.B) {n : Nat} (hn : n ≤ 4) {v : Pt} (hv : v ∈ uni) {T : Tb} (h : InP T) : look (expanded b T n) v = if v.length = n then lin b T (desc v) else 0 := by
  unfold expanded
  rw [look_exp b hn hv T [] h]
  show (0 : Int) + _ = _
  rw [Int.zero_add]
theorem nz_plus {T : Tb} {e : Pt} {c : Int} (h : okVal T) : okVal (plus T e c) := fun q hq => by
  unfold plus at hq
  split at hq
  · exact h q (List.mem_filter.mp hq).1
  · rename_i hz
    rcases mem_put2 hq with rfl | hq
    · exact hz
    · exact h q hq
theorem nz_sumT (f : Int) : ∀ (B A : Tb), okVal A → okVal (sumT A B f)
  | [], A, h => h
  | q :: B, A, h => nz_sumT f B (plus A q.1 (f * (q.2 / 2))) (nz_plus h)
theorem exp_ok (b : SF.B) {n : Nat} (hn : n ≤ 4) : ∀ (T A : Tb), InP T → OkK A → okVal A → OkK (T.foldl (fun acc kv => sumT acc (polyL b n kv.1) kv.2) A) ∧ okVal (T.foldl (fun acc kv => sumT acc (polyL b n kv.1) kv.2) A)
  | [], A, _, h1, h2 => ⟨h1, h2⟩
  | q :: T, A, h, h1, h2 => by
    have pok := poly_sp b n hn q.1 (h q (List.mem_cons_self ..))
    obtain ⟨_, pok⟩ := He.ba pok
    obtain ⟨_, o3⟩ := He.ba pok
    refine exp_ok b hn T _ (fun r hr => h r (List.mem_cons_of_mem _ hr)) (okK_sum q.2 _ A h1 fun r hr => ?_).1 (nz_sumT _ _ _ h2)
    exact of_decide_eq_true (He.ba (List.all_eq_true.mp o3 r hr)).1
theorem expanded_ok (b : SF.B) {n : Nat} (hn : n ≤ 4) {T : Tb} (h : InP T) : OkK (expanded b T n) ∧ okVal (expanded b T n) := exp_ok b hn T [] h ⟨List.nodup_nil, fun k hk => nomatch hk⟩ fun q hq => nomatch hq
theorem len_uni {T : Tb} (h : OkK T) : T.length ≤ 126 := by
  have z := sub_len _ _ h.1 h.2
  rw [List.length_map] at z
  exact Nat.le_trans z (by decide +kernel)
/-! ### the program's polynomial -/
def polyList (M : Tb) (n : Nat) : Tb := M.flatMap fun kv => ((exps n kv.1.sum.toNat).filter fun v => decide (desc v = kv.1)).map fun v => (v, kv.2)
theorem polyF_eq (M : Tb) (n : Nat) : polyF M n = (sortT true ((addTable (polyList M n)).map (·.1))).filterMap (keepL (look (addTable (polyList M n)))) := by
  unfold polyF addedTerms
  rw [keepOf_L]
  rfl
theorem polyList_uni {M : Tb} {n : Nat} (hn : n ≤ 4) (h : InP M) : ∀ q ∈ polyList M n, q.1 ∈ uni := fun q hq => by
  obtain ⟨kv, h1, h2⟩ := List.mem_flatMap.mp hq
  obtain ⟨v, h3, rfl⟩ := List.mem_map.mp h2
  exact (exps_nd n hn kv.1 (h kv h1)).2 v (List.mem_filter.mp h3).1
theorem polyList_look {M : Tb} {n : Nat} (hn : n ≤ 4) (h : InP M) (nd : (M.map (·.1)).Nodup) {v : Pt} (hv : v ∈ uni) : look (addTable (polyList M n)) v = if v.length = n then look M (desc v) else 0 := by
  rw [look_addTable]
  unfold polyList
  rw [lsum_flat]
  have e : lsum (fun q => lsum (fun r => if v = r.1 then r.2 else 0) (((exps n q.1.sum.toNat).filter fun u => decide (desc u = q.1)).map fun u => (u, q.2))) M = lsum (fun q => if v.length = n then (if desc v = q.1 then q.2 else 0) else 0) M := lsum_congr fun q hq => by
    rw [lsum_hit (fun _ => q.2) v (List.Pairwise.filter _ (exps_nd n hn q.1 (h q hq)).1)]
    have z := exps_at n hn q.1 (h q hq) v hv
    have z2 : (v ∈ (exps n q.1.sum.toNat).filter fun u => decide (desc u = q.1)) ↔ (v.length = n ∧ desc v = q.1) := by
      rw [List.mem_filter, decide_eq_true_eq]
      exact decide_eq_decide.mp z
    by_cases c : v.length = n
    · rw [if_pos c]
      by_cases c2 : desc v = q.1
      · rw [if_pos c2, if_pos (z2.mpr ⟨c, c2⟩)]
      · rw [if_neg c2, if_neg (fun y => c2 (z2.mp y).2)]
    · rw [if_neg c, if_neg (fun y => c (z2.mp y).1)]
  rw [e]
  by_cases c : v.length = n
  · simp only [if_pos c]
    exact lsum_look nd (desc v)
  · simp only [if_neg c]
    exact lsum_zero fun q hq => rfl
theorem polyF_facts {M : Tb} {n : Nat} (hn : n ≤ 4) (h : InP M) (nd : (M.map (·.1)).Nodup) : okVal (polyF M n) ∧ Down (polyF M n) ∧ OkK (polyF M n) ∧ ∀ v ∈ uni, look (polyF M n) v = if v.length = n then look M (desc v) else 0 := by
  have kn := addTable_nodup (polyList M n)
  have sn : (sortT true ((addTable (polyList M n)).map (·.1))).Nodup := (sortT_perm _ _).nodup_iff.mpr kn
  have keys : ∀ x, x ∈ sortT true ((addTable (polyList M n)).map (·.1)) → x ∈ uni := fun x hx => by
    obtain ⟨q, h1, h2⟩ := List.mem_map.mp (addTable_sub _ x ((sortT_perm _ _).mem_iff.mp hx))
    rw [← h2]
    exact polyList_uni hn h q h1
  rw [polyF_eq]
  refine ⟨nz_keep _ _, fun i p q h1 h2 => ?_, ⟨?_, fun k hk => ?_⟩, fun v hv => ?_⟩
  · have pw : (sortT true ((addTable (polyList M n)).map (·.1))).Pairwise fun x y => y < x := by
      have p1 := sortT_pw true ((addTable (polyList M n)).map (·.1))
      have p2 := List.Pairwise.and p1 sn
      refine p2.imp fun {x y} z => ?_
      have z1 : y ≤ x := of_decide_eq_true z.1
      exact (List.le_iff_lt_or_eq.mp z1).resolve_right fun e => z.2 e.symm
    have pw2 : (((sortT true ((addTable (polyList M n)).map (·.1))).filterMap (keepL (look (addTable (polyList M n))))).map (·.1)).Pairwise fun x y => y < x := by
      rw [keys_keep]
      exact List.Pairwise.filter _ pw
    rw [List.pairwise_map] at pw2
    obtain ⟨a1, a2⟩ := List.getElem?_eq_some_iff.mp h1
    obtain ⟨b1, b2⟩ := List.getElem?_eq_some_iff.mp h2
    have z := List.pairwise_iff_getElem.mp pw2 i (i + 1) a1 b1 (by omega)
    rw [a2, b2] at z
    exact z
  · rw [keys_keep]
    exact List.Pairwise.filter _ sn
  · rw [keys_keep] at hk
    exact keys k (List.mem_filter.mp hk).1
  · rw [look_keep, ← polyList_look hn h nd hv]
    split
    · rfl
    · rename_i c
      rw [look_none fun z => c ((sortT_perm _ _).mem_iff.mpr z)]
end FB
namespace FB
open SF FR
/-! ### what is due -/
theorem look_due (μ : Pt) (hμ : μ ∈ smallParts) : ∀ (E D : Tb), OkK E → (∀ q ∈ E, q.1.length = 4) → look (E.foldl (fun D kv => if sortD kv.1 = kv.1 then SF.put D (pos kv.1) kv.2 else D) D) μ = (SF.get E (pad μ)).getD (look D μ)
  | [], D, _, _ => rfl
  | q :: E, D, ok, h4 => by
    obtain ⟨nd, ku⟩ := ok
    have nd' : (q.1 :: E.map (·.1)).Nodup := nd
    obtain ⟨n1, n2⟩ := List.nodup_cons.mp nd'
    have hq : q.1 ∈ uni := ku q.1 (List.mem_cons_self ..)
    have h4q := h4 q (List.mem_cons_self ..)
    obtain ⟨p1, p2, p3, p4, p5⟩ := pad_sp μ hμ
    rw [List.foldl_cons, look_due μ hμ E _ ⟨n2, fun k hk => ku k (List.mem_cons_of_mem _ hk)⟩ fun r hr => h4 r (List.mem_cons_of_mem _ hr), get_cons]
    by_cases c : q.1 = pad μ
    · have gn : SF.get E (pad μ) = none := get_none fun z => n1 (by rw [c]; exact z)
      rw [gn, if_pos c]
      show look (if sortD q.1 = q.1 then SF.put D (pos q.1) q.2 else D) μ = q.2
      rw [c, if_pos p2, look_put, p3, if_pos rfl]
    · rw [if_neg c]
      congr 1
      split
      · rename_i s
        rw [look_put, if_neg]
        intro e
        obtain ⟨z1, _⟩ := pos_pad q.1 hq h4q s
        exact c (by rw [← z1, e])
      · rfl
theorem due_ok : ∀ (E D : Tb), OkK E → okVal E → (∀ q ∈ E, q.1.length = 4) → (D.map (·.1)).Nodup → okVal D → InP D → ((E.foldl (fun D kv => if sortD kv.1 = kv.1 then SF.put D (pos kv.1) kv.2 else D) D).map (·.1)).Nodup ∧ okVal (E.foldl (fun D kv => if sortD kv.1 = kv.1 then SF.put D (pos kv.1) kv.2 else D) D) ∧ InP (E.foldl (fun D kv => if sortD kv.1 = kv.1 then SF.put D (pos kv.1) kv.2 else D) D)
  | [], D, _, _, _, h1, h2, h3 => ⟨h1, h2, h3⟩
  | q :: E, D, ok, nz, h4, h1, h2, h3 => by
    obtain ⟨nd, ku⟩ := ok
    have nd' : (q.1 :: E.map (·.1)).Nodup := nd
    obtain ⟨n1, n2⟩ := List.nodup_cons.mp nd'
    have hq : q.1 ∈ uni := ku q.1 (List.mem_cons_self ..)
    have h4q := h4 q (List.mem_cons_self ..)
    rw [List.foldl_cons]
    have ok' : OkK E := ⟨n2, fun k hk => ku k (List.mem_cons_of_mem _ hk)⟩
    have nz' : okVal E := fun r hr => nz r (List.mem_cons_of_mem _ hr)
    have h4' : ∀ r ∈ E, r.1.length = 4 := fun r hr => h4 r (List.mem_cons_of_mem _ hr)
    by_cases s : sortD q.1 = q.1
    · rw [if_pos s]
      obtain ⟨_, z2⟩ := pos_pad q.1 hq h4q s
      refine due_ok E _ ok' nz' h4' (nodup_put _ _ h1) (fun r hr => ?_) fun r hr => ?_
      · rcases mem_put2 hr with rfl | hr
        · exact nz q (List.mem_cons_self ..)
        · exact h2 r hr
      · rcases mem_put2 hr with rfl | hr
        · exact z2
        · exact h3 r hr
    · rw [if_neg s]
      exact due_ok E D ok' nz' h4' h1 h2 h3
theorem sub_canon {T : Tb} (nd : (T.map (·.1)).Nodup) (h : InP T) : T.length ≤ 12 := by
  have z := sub_len _ smallParts nd fun x hx => by
    obtain ⟨q, h1, h2⟩ := List.mem_map.mp hx
    rw [← h2]
    exact h q h1
  rw [List.length_map] at z
  exact Nat.le_trans z (by decide +kernel)
theorem pure_all (b1 : SF.B) (T1 : Tb) (b2 : SF.B) (T2 : Tb) (n : Nat) (g1 : goodT 3 T1) (g2 : goodT 3 T2) (hn : n ≤ 3) : Pure b1 T1 b2 T2 n := by
  have i1 : InP T1 := fun q hq => (g1.2.1 q hq).1
  have i2 : InP T2 := fun q hq => (g2.2.1 q hq).1
  have z1 : okVal T1 := fun q hq => (g1.2.1 q hq).2
  have z2 : okVal T2 := fun q hq => (g2.2.1 q hq).2
  have a1 := added_nd i1 g1.1
  have a2 := added_nd i2 g2.1
  have m1 : meaning b1 (addedParts T1) = canon (lin b1 T1) := by
    rw [a1, meaning_eq b1 (canon_inP _)]
    exact canon_ext fun μ _ => lin_canon b1 i1 g1.1 z1 μ
  have m2 : meaning b2 (addedParts T2) = canon (lin b2 T2) := by
    rw [a2, meaning_eq b2 (canon_inP _)]
    exact canon_ext fun μ _ => lin_canon b2 i2 g2.1 z2 μ
  have okm : ∀ (b : SF.B) (f : Pt → Int), okM b (canon f) := fun b f => ⟨Nat.le_trans (canon_len f) (by decide), fun hb q hq => mean_m b (by cases b <;> simp at hb ⊢) q.1 (canon_mem hq)⟩
  have pf := fun k (hk : k ≤ 4) => polyF_facts (M := canon (lin b1 T1)) hk (canon_inP _) (canon_nodup _)
  have ex := fun k (hk : k ≤ 4) => expanded_ok b1 hk i1
  have lk := fun k (hk : k ≤ 4) (v : Pt) (hv : v ∈ uni) => expanded_look b1 hk hv i1
  have pe : ∀ k, k ≤ 4 → eqT (tableOf (polyF (canon (lin b1 T1)) k)) (expanded b1 T1 k) = true := fun k hk => by
    obtain ⟨f1, f2, f3, f4⟩ := pf k hk
    obtain ⟨e1, e2⟩ := ex k hk
    rw [tableOf_eq f3.1]
    refine eqT_true f3.1 e1.1 f1 e2 fun v => ?_
    by_cases hv : v ∈ uni
    · rw [f4 v hv, lk k hk v hv]
      split
      · rw [canon_look, if_pos (desc_sp v hv)]
      · rfl
    · rw [look_none fun z => hv (f3.2 v z), look_none fun z => hv (e1.2 v z)]
  obtain ⟨x1, x2⟩ := ex 4 (by omega)
  have x4 : ∀ q ∈ expanded b1 T1 4, q.1.length = 4 := fun q hq => by
    have hk : q.1 ∈ (expanded b1 T1 4).map (·.1) := List.mem_map.mpr ⟨q, hq, rfl⟩
    have z := (mem_keys x1.1 x2 q.1).mp hk
    rw [lk 4 (by omega) q.1 (x1.2 _ hk)] at z
    by_cases c : q.1.length = 4
    · exact c
    · rw [if_neg c] at z; exact absurd rfl z
  obtain ⟨d1', d2', d3'⟩ := due_ok (expanded b1 T1 4) [] x1 x2 x4 List.nodup_nil (fun q hq => nomatch hq) (fun q hq => nomatch hq)
  have d1 : ((dueOf (expanded b1 T1 4)).map (·.1)).Nodup := d1'
  have d2 : okVal (dueOf (expanded b1 T1 4)) := d2'
  have d3 : InP (dueOf (expanded b1 T1 4)) := d3'
  have dl : ∀ μ, look (dueOf (expanded b1 T1 4)) μ = if μ ∈ smallParts then lin b1 T1 μ else 0 := fun μ => by
    by_cases hμ : μ ∈ smallParts
    · obtain ⟨p1, p2, p3, p4, p5⟩ := pad_sp μ hμ
      rw [if_pos hμ]
      have z := look_due μ hμ (expanded b1 T1 4) [] x1 x4
      have z2 : look (dueOf (expanded b1 T1 4)) μ = look (expanded b1 T1 4) (pad μ) := z
      rw [z2, lk 4 (by omega) (pad μ) p1, if_pos p5, p4]
    · rw [if_neg hμ]
      exact look_none fun z => by
        obtain ⟨q, h1, h2⟩ := List.mem_map.mp z
        exact hμ (by rw [← h2]; exact d3 q h1)
  have ad : addedParts (dueOf (expanded b1 T1 4)) = canon (lin b1 T1) := by
    rw [added_nd d3 d1]
    exact canon_ext fun μ hμ => by rw [dl, if_pos hμ]
  have mm : ∀ M, meaning .m M = addedParts M := fun M => by unfold meaning; rw [if_pos rfl]
  have heq : decide (canon (lin b1 T1) = canon (lin b2 T2)) = eqT (expanded b1 T1 4) (expanded b2 T2 4) := by
    obtain ⟨y1, y2⟩ := expanded_ok b2 (n := 4) (by omega) i2
    by_cases c : canon (lin b1 T1) = canon (lin b2 T2)
    · rw [decide_eq_true c]
      symm
      refine eqT_true x1.1 y1.1 x2 y2 fun v => ?_
      by_cases hv : v ∈ uni
      · rw [lk 4 (by omega) v hv, expanded_look b2 (by omega) hv i2]
        split
        · exact canon_inj c _ (desc_sp v hv)
        · rfl
      · rw [look_none fun z => hv (x1.2 v z), look_none fun z => hv (y1.2 v z)]
    · rw [decide_eq_false c]
      symm
      rw [Bool.eq_false_iff]
      intro h
      refine c (canon_ext fun μ hμ => ?_)
      obtain ⟨p1, p2, p3, p4, p5⟩ := pad_sp μ hμ
      have z := eqT_look x1.1 y1.1 h (pad μ)
      rw [lk 4 (by omega) (pad μ) p1, expanded_look b2 (by omega) p1 i2, if_pos p5, if_pos p5, p4] at z
      exact z
  have cs := canon_self (lin b1 T1)
  have hle : ∀ f, (canon f).length ≤ 40 := fun f => Nat.le_trans (canon_len f) (by decide)
  exact
    { v1 := by rw [a1]; exact canon_nz _
      d1 := by rw [a1]; exact canon_down _
      l1 := by rw [a1]; exact hle _
      t1 := by
        rw [a1, tableOf_eq (canon_nodup _)]
        refine eqT_true (canon_nodup _) g1.1 (canon_nz _) z1 fun p => ?_
        rw [canon_look]
        split
        · rfl
        · rename_i hp
          rw [look_none fun z => by
            obtain ⟨q, h1, h2⟩ := List.mem_map.mp z
            exact hp (by rw [← h2]; exact i1 q h1)]
      m1 := by rw [a1]; exact okm _ _
      m2 := by rw [a2]; exact okm _ _
      lm := by rw [m1]; exact ⟨fun q hq => sp_ok (canon_mem hq), hle _⟩
      sm := by
        rw [m1]
        intro q hq
        have := sp_sum (canon_mem hq)
        omega
      vp := by
        rw [m1]
        intro k hk
        obtain ⟨f1, f2, f3, f4⟩ := pf k hk
        exact ⟨f1, f2, Nat.le_trans (len_uni f3) (by decide)⟩
      p4 := by rw [m1]; exact pe 4 (by omega)
      pn := by rw [m1]; exact pe n (by omega)
      e4 := Nat.le_trans (len_uni x1) (by decide)
      n4 := x1.1
      k4 := fun q hq => by rw [x4 q hq]; decide
      vm := by rw [m1, cs]; exact canon_nz _
      dm := by rw [m1, cs]; exact canon_down _
      om := by rw [m1, cs]; exact hle _
      tm := by
        rw [m1, cs, tableOf_eq (canon_nodup _)]
        refine eqT_true (canon_nodup _) d1 (canon_nz _) d2 fun μ => ?_
        rw [canon_look]
        exact (dl μ).symm
      eq := by rw [m1, m2]; exact heq
      em := by rw [m1, cs, mm, cs]
      od := fun q hq => sp_ok (d3 q hq)
      nd := d1
      ol := Nat.le_trans (sub_canon d1 d3) (by decide)
      oa := by rw [ad]; exact hle _
      ed := by rw [ad, mm, cs, m1] }
end FB
namespace FB
open PySem PySem.Spec PyProof.Rows L2 SF FR
theorem fa_glo : ∀ x, globs.contains x = true → He.Fa.glo x ∈ fa := fun x h => by
  unfold fa
  exact List.mem_append_right _ (List.mem_append_left _ (List.mem_map.mpr ⟨x, List.contains_iff_mem.mp h, rfl⟩))
theorem fa_free : ∀ x, frees.contains x = true → He.Fa.free x ∈ fa := fun x h => by
  unfold fa
  exact List.mem_append_right _ (List.mem_append_right _ (List.mem_map.mpr ⟨x, List.contains_iff_mem.mp h, rfl⟩))
theorem tx_of {K : PySem.W.Frag} {mg : Str → Option Value} {h : Heap} (X : K.In h) (G : h.Ns mainGlobals mg) (cd : He.SaysD fa fn K) (ce : ex K = true) : Tx K mg := by
  refine ⟨fun i d hd => cd.def_ i hd, fun i f hf => cd.fact i hf, fun x hx => He.glo_ok X G (cd.facts (fa_glo x hx)), fun x hx => He.free_ok X G (cd.facts (fa_free x hx)), ce, ?_, He.int_ok X G (cd.fact 19 (f := .int "MOST_partition" 12) rfl), He.int_ok X G (cd.fact 20 (f := .int "MOST_letters" 8) rfl), He.int_ok X G (cd.fact 21 (f := .int "MOST_DEGREE" 8) rfl), He.str_ok X G (cd.fact 22 (f := .str "BASES" "mehps") rfl)⟩
  have e := ce
  unfold ex at e
  obtain ⟨_, e⟩ := He.ba e
  obtain ⟨_, e⟩ := He.ba e
  obtain ⟨_, e⟩ := He.ba e
  obtain ⟨_, e⟩ := He.ba e
  obtain ⟨_, e⟩ := He.ba e
  obtain ⟨e, _⟩ := He.ba e
  exact PySem.W.mg_of X G (He.eqO_ok e)
end FB
open PySem PySem.W PySem.Calls PyProof.Rows
theorem PySem.Challenge.cw_fivebases_k21_whole_meanings_holds : PySem.Challenge.rw_fivebases_k21_whole_meanings.Holds := by
  w_on; o_law
  refine HandSHeadRun.head_imp (r := OpenLaw.row PySem.Challenge.rw_fivebases_k21_whole_meanings) (q := view (OpenLaw.row PySem.Challenge.rw_fivebases_k21_whole_meanings).prog [0, 77]) (H := FB.headHook) (ob := FB.headOb) (M := 6000) (loose := FB.loose) (d := HandSHeadRun.topDef (OpenLaw.row PySem.Challenge.rw_fivebases_k21_whole_meanings).prog 77) (kwd := []) FB.headOb_eq
    FB.headRun (by kernel_rfl) (by kernel_rfl) (by kernel_rfl) (by rfl) (by first | assumption | decide +kernel) (by decide +kernel) ⟨rfl, rfl, rfl, rfl, rfl, by decide +kernel⟩ ?hw ?hc
  case hw => w_witness2
  case hc =>
    refine L2.walk_ofE (l := PySem.Challenge.rw_fivebases_k21_whole_meanings) (n := 63) (k := 17) (x := "_law_script") (CX := L2.CX0) rfl (by decide) (by kernel_rfl) ⟨rfl, by decide, by decide⟩ ?F (fun _ _ _ _ z => z)
    intro w mg fa h Y G hmg0
    obtain ⟨K, KX, cd, ce⟩ := Y
    have hmg : mg ("law" : PySem.Str) = some (.ref fa) := by
      have e : (HandSHeadRun.topDef (OpenLaw.row PySem.Challenge.rw_fivebases_k21_whole_meanings).prog 77).name = ("law" : PySem.Str) := by kernel_rfl
      rw [← e]
      exact hmg0
    have T := FB.tx_of KX G cd ce
    obtain ⟨fd, F⟩ := T.d 46 FB.d_law rfl
    have e := hmg.symm.trans (T.g "law" (by decide +kernel))
    cases e
    have b := L2.FunD.bindsA (ps := ["_law_script"]) F fun _ _ _ _ _ _ us hl => match us, hl with | [_], _ => rfl
    exact ⟨K, fd, FB.spLaw K, KX, fun s v => b s [v] rfl, fun H a ns hl _ hS => ⟨a, ns, rfl, hS, Nat.le_trans hl (by decide), fun _ => rfl⟩, fun base _ _ => FB.ok_law T FB.pure_all F⟩
