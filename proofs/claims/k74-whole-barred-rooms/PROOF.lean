import PyProof.Rows.All
import Wide.All
import OpenK.AllK
import Wide.FinOn
import HandS.Base
import HandS.Call
import HandS.ClsMeth
import HandS.Codes
import HandS.Conv
import HandS.Deep
import HandS.Defaults
import HandS.DictComp
import HandS.DictEq
import HandS.Ends
import HandS.Exc
import HandS.FStr
import HandS.Flow
import HandS.ForMost
import HandS.GenCall
import HandS.GenList
import HandS.GenOver
import HandS.GenYield
import HandS.Head0
import HandS.Head1
import HandS.Head2
import HandS.HeadEnd
import HandS.HeadHook1
import HandS.HeadHook2
import HandS.IsInst
import HandS.MakeKwOnly
import HandS.More
import HandS.Property
import HandS.RaiseMore
import HandS.Set
import HandS.SetFor
import HandS.SetTxt0
import HandS.SortInts
import HandS.SortKw
import HandS.StrMore
import HandS.Strs
import HandS.Style
import HandS.TupAny
import HandS.Walk
import HandS.WideBits
import HandS.Words
import KE.BitLaws
import KE.GoesEnum
import KE.GoesMore
import KE.KStateDown
import PyProof.ForAny
import PyProof.GenQ
import PyProof.GenRules
import PyProof.ReprBulk
import PyProof.ReprRoads
import PyProof.Rows.SortStr
import PyProof.Rows.StrSplitCount
import PyProof.StrBlock2
import PySem.Challenge.RW_nearestsays_k74_whole_barred_rooms_liste
set_option Elab.async false
set_option linter.all false
set_option maxRecDepth 100000
set_option maxHeartbeats 2000000
/-! A hook over what the module's names reach, level by level (no look for doubles), and facts as Bools of one's own. -/
namespace NX
open PySem PySem.Spec PyProof.Rows L2 He
def refsN (o : Obj) : List Addr := match o.data with
  | .seq its _ => its.toList.flatMap refV
  | .dict es _ => es.toList.flatMap fun e => refV e.val
  | .func fd => refV fd.code ++ refV fd.defaults ++ refV fd.kwdefaults ++ fd.closure.map (·.2)
  | .cls cd => [cd.ns]
  | .fields vs => vs.toList.flatMap refV
  | _ => []
def nextN (g : Addr → Option Obj) (as : List Addr) : List Addr := as.flatMap fun a => match g a with
  | some o => refsN o
  | none => []
def asN (g : Addr → Option Obj) : Nat → List Addr → List Addr
  | 0, as => as
  | n + 1, as => as ++ asN g n (nextN g as)
/-- a def found by a path of one's own (a property's getter), without defaults -/
structure DefA where
  ad : PySem.W.Frag → Addr
  name : Str
  qual : Str
  st : Stmt
def seenA (K : PySem.W.Frag) (d : DefA) : FnW := match K.lookup (d.ad K) with
  | some ⟨_, _, .func g, _⟩ => some (g.name, g.qualname, g.params, g.body, g.scope, g.globals, g.closure, g.builtins)
  | _ => none
def DefA.val (d : DefA) : FnW := some (d.name, d.qual, defArgs d.st, .stmts (defBody d.st), defScope d.st, mainGlobals, [], builtinsNs)
def DefA.ok (K : PySem.W.Frag) (d : DefA) : Bool := PySem.W.keepIn K (.ref (d.ad K)) && (match K.lookup (d.ad K) with
  | some ⟨_, _, .func g, _⟩ => PySem.W.codeIn K g.code d.qual && dflB K g.defaults []
  | _ => false)
theorem DefA.funA {K : PySem.W.Frag} {d : DefA} (e : seenA K d = d.val) (c : d.ok K = true) : ∃ fd, FunD K d.name d.qual (defArgs d.st) (defBody d.st) (defScope d.st) [] [] (d.ad K) fd := by
  obtain ⟨kp, c⟩ := ba c
  unfold seenA at e
  split at e
  · rename_i oc od g osl q
    rw [q] at c
    obtain ⟨c1, c2⟩ := ba c
    have hd := dflB_ok c2
    obtain ⟨n1, n2, n3, n4, n5, n6, n7, n8, n9, n10, n11, n12, n13, n14, n15⟩ := g
    have e2 : (some (n1, n2, n3, n4, n5, n6, n7, n15) : FnW) = some (d.name, d.qual, defArgs d.st, .stmts (defBody d.st), defScope d.st, mainGlobals, [], builtinsNs) := e
    simp only [Option.some.injEq, Prod.mk.injEq] at e2
    obtain ⟨h1, h2, h3, h4, h5, h6, h7, h8⟩ := e2
    subst h1 h2 h3 h4 h5 h6 h7 h8
    exact ⟨_, ⟨oc, od, n8, n9, n10, n11, n12, n13, n14, osl, rfl, q, c1, hd, .inl rfl⟩, kp⟩
  · cases e
abbrev AlN : Type := Bool × List FnW × List FnW
def obsN (fa : List Fa) (xs : List (PySem.W.Frag → Bool)) (fn : List DefD) (gn : List DefA) (K : PySem.W.Frag) : AlN :=
  (((fa.all fun f => f.ok K) && xs.all fun f => f K) && ((fn.all fun d => d.ok K) && gn.all fun d => d.ok K), fn.map (fun d => fnW K d.at_), gn.map (seenA K))
def valN (fn : List DefD) (gn : List DefA) : AlN := (true, fn.map DefD.val, gn.map DefA.val)
def SaysN (fa : List Fa) (xs : List (PySem.W.Frag → Bool)) (fn : List DefD) (gn : List DefA) (K : PySem.W.Frag) : Prop := obsN fa xs fn gn K = valN fn gn
def obsNG (n : Nat) (fa : List Fa) (xs : List (PySem.W.Frag → Bool)) (fn : List DefD) (gn : List DefA) (g : Addr → Option Obj) : AlN := obsN fa xs fn gn (frG g (cStatics :: asN g n [mainGlobals]))
def hookN (n : Nat) (fa : List Fa) (xs : List (PySem.W.Frag → Bool)) (fn : List DefD) (gn : List DefA) : PySem.W.Hook where
  α := AlN
  obs := fun s => obsNG n fa xs fn gn s.heap.get?
  val := fun _ => valN fn gn
  says := fun _ h => ∃ K : PySem.W.Frag, K.In h ∧ SaysN fa xs fn gn K
  of := fun _ _ e => ⟨_, frG_in, e⟩
  keeps := fun _ _ _ ⟨K, hK, c⟩ k => ⟨K, PySem.W.Frag.In.keeps hK k, c⟩
theorem obsNG_eq {n : Nat} {fa : List Fa} {xs : List (PySem.W.Frag → Bool)} {fn : List DefD} {gn : List DefA} {g : Addr → Option Obj} {s : Shared} (h : ∀ a, g a = s.heap.get? a) : obsNG n fa xs fn gn g = (hookN n fa xs fn gn).obs s := by
  have e : g = s.heap.get? := funext h
  rw [e] <;> rfl
theorem obs_both {fa : List Fa} {xs : List (PySem.W.Frag → Bool)} {fn : List DefD} {gn : List DefA} {K : PySem.W.Frag} (h1 : obsN fa xs [] [] K = valN [] []) (h2 : obsN [] [] fn gn K = valN fn gn) : obsN fa xs fn gn K = valN fn gn := by
  have a : (((fa.all fun f => f.ok K) && xs.all fun f => f K) && true) = true := congrArg (fun z : AlN => z.1) h1
  have b : (true && ((fn.all fun d => d.ok K) && gn.all fun d => d.ok K)) = true := congrArg (fun z : AlN => z.1) h2
  have c : (fn.map (fun d => fnW K d.at_), gn.map (seenA K)) = (fn.map DefD.val, gn.map DefA.val) := congrArg (fun z : AlN => z.2) h2
  rw [Bool.and_true] at a
  rw [Bool.true_and] at b
  refine Prod.ext ?_ c
  show (((fa.all fun f => f.ok K) && xs.all fun f => f K) && ((fn.all fun d => d.ok K) && gn.all fun d => d.ok K)) = true
  rw [a, b]
  rfl
section
variable {fa : List Fa} {xs : List (PySem.W.Frag → Bool)} {fn : List DefD} {gn : List DefA} {K : PySem.W.Frag}
theorem SaysN.one (c : SaysN fa xs fn gn K) : (((fa.all fun f => f.ok K) && xs.all fun f => f K) && ((fn.all fun d => d.ok K) && gn.all fun d => d.ok K)) = true := congrArg (fun z : AlN => z.1) c
theorem SaysN.fact (c : SaysN fa xs fn gn K) {f : Fa} (h : f ∈ fa) : f.ok K = true := List.all_eq_true.mp (ba (ba c.one).1).1 f h
theorem SaysN.more (c : SaysN fa xs fn gn K) {f : PySem.W.Frag → Bool} (h : f ∈ xs) : f K = true := List.all_eq_true.mp (ba (ba c.one).1).2 f h
theorem SaysN.def_ (c : SaysN fa xs fn gn K) {d : DefD} (h : d ∈ fn) : ∃ fd, FunD K d.name d.qual d.params d.body d.scope (d.dvs K) (d.kws K) (fAd K d.at_) fd := by
  obtain ⟨i, hi⟩ := List.getElem?_of_mem h
  have e : fn.map (fun d => fnW K d.at_) = fn.map DefD.val := congrArg (fun z : AlN => z.2.1) c
  have e2 : (fn.map fun d => fnW K d.at_)[i]? = (fn.map DefD.val)[i]? := by rw [e]
  rw [List.getElem?_map, List.getElem?_map, hi] at e2
  exact DefD.funD (Option.some.inj e2) (List.all_eq_true.mp (ba (ba c.one).2).1 d h)
theorem SaysN.get (c : SaysN fa xs fn gn K) {d : DefA} (h : d ∈ gn) : ∃ fd, FunD K d.name d.qual (defArgs d.st) (defBody d.st) (defScope d.st) [] [] (d.ad K) fd := by
  obtain ⟨i, hi⟩ := List.getElem?_of_mem h
  have e : gn.map (seenA K) = gn.map DefA.val := congrArg (fun z : AlN => z.2.2) c
  have e2 : (gn.map (seenA K))[i]? = (gn.map DefA.val)[i]? := by rw [e]
  rw [List.getElem?_map, List.getElem?_map, hi] at e2
  exact DefA.funA (Option.some.inj e2) (List.all_eq_true.mp (ba (ba c.one).2).2 d h)
end
end NX
set_option Elab.async false
set_option linter.all false
set_option maxRecDepth 100000
/-! The text by places. -/
namespace NS
open PySem L2
def top (i : Nat) : Stmt := PySem.Challenge.pw_nearestsays_k74_whole_barred_rooms_liste.main.body.getD i (.Pass ⟨0, 0, 0, 0⟩)
abbrev s_is_name : Stmt := top 16
abbrev s_is_text : Stmt := top 19
abbrev s_names_in : Stmt := top 20
abbrev s_text_of : Stmt := top 21
abbrev s_parts_at : Stmt := top 23
abbrev s_text_at : Stmt := top 24
abbrev s_step_of : Stmt := top 32
abbrev s_need_columns : Stmt := top 36
abbrev s_need_keys : Stmt := top 37
abbrev s_is_cells : Stmt := top 38
abbrev s_joined_rows : Stmt := top 39
abbrev s_text_above : Stmt := top 46
abbrev s_answers_of : Stmt := top 47
abbrev s_kind_of : Stmt := top 48
abbrev s_row_of : Stmt := top 49
abbrev s_changed_columns : Stmt := top 51
abbrev s_steps_at : Stmt := top 52
abbrev s_steps_in_rings : Stmt := top 55
abbrev s_ring : Stmt := top 56
abbrev s_need_no_ring : Stmt := top 58
abbrev s_need_whole_rows : Stmt := top 61
abbrev s_need_orders : Stmt := top 62
abbrev s_gain_of : Stmt := top 63
abbrev s_barred : Stmt := top 65
abbrev s_shows_barred : Stmt := top 66
abbrev s_law_pen : Stmt := top 68
abbrev s_law_draw : Stmt := top 69
abbrev s_law_pick : Stmt := top 70
abbrev s_law_below : Stmt := top 71
abbrev s_law_up : Stmt := top 72
abbrev s_law_names : Stmt := top 73
abbrev s_law_places : Stmt := top 74
abbrev s_law_site : Stmt := top 75
abbrev s_law_table : Stmt := top 76
abbrev s_law_exchange : Stmt := top 77
abbrev s_law_kind : Stmt := top 78
abbrev s_law_above : Stmt := top 79
abbrev s_law_spots : Stmt := top 80
abbrev s_law_steps : Stmt := top 81
abbrev s_law_number : Stmt := top 82
abbrev s_law_sentences : Stmt := top 83
abbrev s_law_pairs : Stmt := top 84
abbrev s_law_rows : Stmt := top 85
abbrev s_law_subsets : Stmt := top 86
abbrev s_law_is_strict : Stmt := top 87
abbrev s_law_reached : Stmt := top 88
abbrev s_law_right : Stmt := top 89
abbrev s_law : Stmt := top 90
abbrev sStep_init : Stmt := inClass (top 26) 1
abbrev sTable_init : Stmt := inClass (top 40) 2
abbrev sTable_places : Stmt := inClass (top 40) 4
abbrev sTable_getitem : Stmt := inClass (top 40) 5
abbrev sTable_contains : Stmt := inClass (top 40) 10
abbrev sTable_len : Stmt := inClass (top 40) 11
abbrev sTable_cells : Stmt := inClass (top 40) 19
abbrev sTable_copy : Stmt := inClass (top 40) 23
abbrev sExchange_init : Stmt := inClass (top 53) 0
abbrev sExchange_first_copy : Stmt := inClass (top 53) 2
abbrev sExchange_rows_at : Stmt := inClass (top 53) 4
abbrev sExchange_places_divided : Stmt := inClass (top 53) 5
abbrev sExchange_steps_told : Stmt := inClass (top 53) 6
abbrev sExchange_kind_at : Stmt := inClass (top 53) 7
abbrev sExchange_place_above : Stmt := inClass (top 53) 8
abbrev sExchange_sentence_at : Stmt := inClass (top 53) 9
abbrev sExchange_sentences_told : Stmt := inClass (top 53) 10
abbrev sExchange_len : Stmt := inClass (top 53) 17
abbrev sGround_init : Stmt := inClass (top 64) 0
abbrev sGround_numbers_of : Stmt := inClass (top 64) 1
abbrev sGround_rows_at : Stmt := inClass (top 64) 2
abbrev sGround_next_steps : Stmt := inClass (top 64) 3
abbrev sGround_layers : Stmt := inClass (top 64) 4
abbrev sGround_needs : Stmt := inClass (top 64) 5
abbrev sGround_steps_within : Stmt := inClass (top 64) 7
abbrev sGround_reached : Stmt := inClass (top 64) 8
abbrev sGround_standing_of : Stmt := inClass (top 64) 9
end NS
set_option Elab.async false
set_option linter.all false
set_option maxRecDepth 100000
set_option maxHeartbeats 0
/-! The head: facts of the classes and defs as the top leaves them. -/
namespace NS
open PySem PySem.Spec PyProof.Rows L2 He
/-- a text that is the class's constant -/
def conB (x f z : Str) (K : PySem.W.Frag) : Bool := match PySem.W.findIn K (.ref (ga K x)) f with
  | some (some (.str y t)) => decide (y = z) && (eqO (PySem.W.specialIn K (.str y t) "__get__") (some none) && !PySem.W.copiedNames.contains f)
  | _ => false
/-- the getter of a property of the class -/
def propG (K : PySem.W.Frag) (x f : Str) : Addr := match PySem.W.findIn K (.ref (ga K x)) f with
  | some (some (.ref p)) => (match PySem.W.recIn K p "property" with
    | some (.ref g :: _) => g
    | _ => 0)
  | _ => 0
def propP (K : PySem.W.Frag) (x f : Str) : Addr := ma K (ga K x) f
def propB (x f : Str) (K : PySem.W.Frag) : Bool := eqO (PySem.W.findIn K (.ref (ga K x)) f) (some (some (.ref (propP K x f)))) && (eqO (PySem.W.specialIn K (.ref (propP K x f)) "__get__") (some (some (.builtin "property.__get__"))) &&
  (decide (PySem.W.takesIn K (.ref (propP K x f)) = some true) && (match PySem.W.recIn K (propP K x f) "property" with
    | some (.ref g :: _) => decide (g = propG K x f)
    | _ => false)))
def clsIntB (x f : Str) (i : Int) (K : PySem.W.Frag) : Bool := PySem.W.readsIn K (ga K x) (.type "type") && (eqO (PySem.W.specialIn K (.ref (ga K x)) "__getattribute__") (some (some (.builtin "type.__getattribute__"))) &&
  (match PySem.W.findCls K (.ref (ga K x)) (.type "type") f with
    | some (.val (.int j _)) => decide (j = i)
    | _ => false))
def itemB (x : Str) (K : PySem.W.Frag) : Bool := PySem.W.noSeq K (ga K x) && PySem.W.fnIn K (ma K (ga K x) "__getitem__")
def kitB (x : Str) (K : PySem.W.Frag) : Bool := decide (PySem.W.kitOne K (.type "str") (.ref (ga K x)) = some false)
def keepB (x : Str) (K : PySem.W.Frag) : Bool := PySem.W.keepIn K (.ref (ga K x))
def fa0 : List He.Fa := [.free "len", .free "isinstance", .free "str", .free "int", .free "dict", .free "list", .free "tuple", .free "sorted", .free "set", .free "range", .free "enumerate", .free "all", .free "min", .free "max", .free "sum", .free "repr", .free "abs", .free "bool", .glo "is_name", .glo "is_text"]
def fa1 : List He.Fa := [.glo "names_in", .glo "text_of", .glo "parts_at", .glo "text_at", .glo "step_of", .glo "need_columns", .glo "need_keys", .glo "is_cells", .glo "joined_rows", .glo "text_above", .glo "answers_of", .glo "kind_of", .glo "row_of", .glo "changed_columns", .glo "steps_at", .glo "steps_in_rings", .glo "ring", .glo "need_no_ring", .glo "need_whole_rows", .glo "need_orders"]
def fa2 : List He.Fa := [.glo "gain_of", .glo "barred", .glo "shows_barred", .glo "_law_pen", .glo "_law_draw", .glo "_law_pick", .glo "_law_below", .glo "_law_up", .glo "_law_names", .glo "_law_places", .glo "_law_site", .glo "_law_table", .glo "_law_exchange", .glo "_law_kind", .glo "_law_above", .glo "_law_spots", .glo "_law_steps", .glo "_law_number", .glo "_law_sentences", .glo "_law_pairs"]
def fa3 : List He.Fa := [.glo "_law_rows", .glo "_law_subsets", .glo "_law_is_strict", .glo "_law_reached", .glo "_law_right", .glo "law", .glo "Place", .glo "Put", .glo "Take", .glo "Edit", .glo "Table", .glo "Exchange", .glo "Ground", .str "OLD" "old", .str "NEW" "new", .str "TURNED" "turned", .str "KEPT" "kept", .str "SIGNS" "abcdefghijklmnopqrstuvwxyz0123456789", .int "LONGEST_NAME" 8, .int "MOST_NAMES" 8]
def fa4 : List He.Fa := [.int "MOST_ROWS" 40, .int "MOST_COLUMNS" 3, .int "MOST_STANDINGS" 2000, .cls "Put", .mkr "Put", .noat "Put" "word", .noat "Put" "place", .noat "Put" "columns", .noat "Put" "held", .cls "Take", .mkr "Take", .noat "Take" "word", .noat "Take" "place", .noat "Take" "columns", .noat "Take" "held", .cls "Edit", .mkr "Edit", .noat "Edit" "word", .noat "Edit" "place", .noat "Edit" "columns"]
def fa5 : List He.Fa := [.noat "Edit" "held", .cls "Table", .mkr "Table", .noat "Table" "columns", .noat "Table" "row_of", .cls "Exchange", .mkr "Exchange", .noat "Exchange" "columns", .noat "Exchange" "held", .noat "Exchange" "answers", .noat "Exchange" "spots", .noat "Exchange" "divided", .noat "Exchange" "steps", .noat "Exchange" "numbers", .noat "Exchange" "sentences", .cls "Ground", .mkr "Ground", .noat "Ground" "many", .noat "Ground" "begun", .noat "Ground" "gains"]
def fa6 : List He.Fa := [.noat "Ground" "bits", .noat "Ground" "ahead", .meth "Table" "__getitem__", .meth "Table" "__contains__", .meth "Table" "__len__", .meth "Table" "cells", .meth "Table" "copy", .meth "Exchange" "first_copy", .meth "Exchange" "rows_at", .meth "Exchange" "places_divided", .meth "Exchange" "steps_told", .meth "Exchange" "kind_at", .meth "Exchange" "place_above", .meth "Exchange" "sentence_at", .meth "Exchange" "sentences_told", .meth "Exchange" "__len__", .meth "Ground" "numbers_of", .meth "Ground" "rows_at", .meth "Ground" "next_steps", .meth "Ground" "layers"]
def fa7 : List He.Fa := [.meth "Ground" "needs", .meth "Ground" "steps_within", .meth "Ground" "reached", .meth "Ground" "standing_of"]
def fa : List He.Fa := fa0 ++ fa1 ++ fa2 ++ fa3 ++ fa4 ++ fa5 ++ fa6 ++ fa7
def xs0 : List (PySem.W.Frag → Bool) := [conB "Put" "WORD" "put", conB "Take" "WORD" "take", conB "Edit" "WORD" "edit", propB "Table" "places", clsIntB "Table" "MOST" 40, itemB "Table", keepB "Place", kitB "Place"]
def xs : List (PySem.W.Frag → Bool) := xs0
def d_is_name : He.DefD := ⟨("is_name", none), "is_name", "is_name", defArgs s_is_name, defBody s_is_name, defScope s_is_name, [], []⟩
def d_is_text : He.DefD := ⟨("is_text", none), "is_text", "is_text", defArgs s_is_text, defBody s_is_text, defScope s_is_text, [], []⟩
def d_names_in : He.DefD := ⟨("names_in", none), "names_in", "names_in", defArgs s_names_in, defBody s_names_in, defScope s_names_in, [], []⟩
def d_text_of : He.DefD := ⟨("text_of", none), "text_of", "text_of", defArgs s_text_of, defBody s_text_of, defScope s_text_of, [], []⟩
def d_parts_at : He.DefD := ⟨("parts_at", none), "parts_at", "parts_at", defArgs s_parts_at, defBody s_parts_at, defScope s_parts_at, [], []⟩
def d_text_at : He.DefD := ⟨("text_at", none), "text_at", "text_at", defArgs s_text_at, defBody s_text_at, defScope s_text_at, [], []⟩
def d_step_of : He.DefD := ⟨("step_of", none), "step_of", "step_of", defArgs s_step_of, defBody s_step_of, defScope s_step_of, [], []⟩
def d_need_columns : He.DefD := ⟨("need_columns", none), "need_columns", "need_columns", defArgs s_need_columns, defBody s_need_columns, defScope s_need_columns, [], []⟩
def d_need_keys : He.DefD := ⟨("need_keys", none), "need_keys", "need_keys", defArgs s_need_keys, defBody s_need_keys, defScope s_need_keys, [], []⟩
def d_is_cells : He.DefD := ⟨("is_cells", none), "is_cells", "is_cells", defArgs s_is_cells, defBody s_is_cells, defScope s_is_cells, [], []⟩
def d_joined_rows : He.DefD := ⟨("joined_rows", none), "joined_rows", "joined_rows", defArgs s_joined_rows, defBody s_joined_rows, defScope s_joined_rows, [], []⟩
def d_text_above : He.DefD := ⟨("text_above", none), "text_above", "text_above", defArgs s_text_above, defBody s_text_above, defScope s_text_above, [], []⟩
def d_answers_of : He.DefD := ⟨("answers_of", none), "answers_of", "answers_of", defArgs s_answers_of, defBody s_answers_of, defScope s_answers_of, [], []⟩
def d_kind_of : He.DefD := ⟨("kind_of", none), "kind_of", "kind_of", defArgs s_kind_of, defBody s_kind_of, defScope s_kind_of, [], []⟩
def d_row_of : He.DefD := ⟨("row_of", none), "row_of", "row_of", defArgs s_row_of, defBody s_row_of, defScope s_row_of, [], []⟩
def d_changed_columns : He.DefD := ⟨("changed_columns", none), "changed_columns", "changed_columns", defArgs s_changed_columns, defBody s_changed_columns, defScope s_changed_columns, [], []⟩
def d_steps_at : He.DefD := ⟨("steps_at", none), "steps_at", "steps_at", defArgs s_steps_at, defBody s_steps_at, defScope s_steps_at, [], []⟩
def d_steps_in_rings : He.DefD := ⟨("steps_in_rings", none), "steps_in_rings", "steps_in_rings", defArgs s_steps_in_rings, defBody s_steps_in_rings, defScope s_steps_in_rings, [], []⟩
def d_ring : He.DefD := ⟨("ring", none), "ring", "ring", defArgs s_ring, defBody s_ring, defScope s_ring, [], []⟩
def d_need_no_ring : He.DefD := ⟨("need_no_ring", none), "need_no_ring", "need_no_ring", defArgs s_need_no_ring, defBody s_need_no_ring, defScope s_need_no_ring, [], []⟩
def d_need_whole_rows : He.DefD := ⟨("need_whole_rows", none), "need_whole_rows", "need_whole_rows", defArgs s_need_whole_rows, defBody s_need_whole_rows, defScope s_need_whole_rows, [], []⟩
def d_need_orders : He.DefD := ⟨("need_orders", none), "need_orders", "need_orders", defArgs s_need_orders, defBody s_need_orders, defScope s_need_orders, [], []⟩
def d_gain_of : He.DefD := ⟨("gain_of", none), "gain_of", "gain_of", defArgs s_gain_of, defBody s_gain_of, defScope s_gain_of, [], []⟩
def d_barred : He.DefD := ⟨("barred", none), "barred", "barred", defArgs s_barred, defBody s_barred, defScope s_barred, [], []⟩
def d_shows_barred : He.DefD := ⟨("shows_barred", none), "shows_barred", "shows_barred", defArgs s_shows_barred, defBody s_shows_barred, defScope s_shows_barred, [], []⟩
def d_law_pen : He.DefD := ⟨("_law_pen", none), "_law_pen", "_law_pen", defArgs s_law_pen, defBody s_law_pen, defScope s_law_pen, [], []⟩
def d_law_draw : He.DefD := ⟨("_law_draw", none), "_law_draw", "_law_draw", defArgs s_law_draw, defBody s_law_draw, defScope s_law_draw, [], []⟩
def d_law_pick : He.DefD := ⟨("_law_pick", none), "_law_pick", "_law_pick", defArgs s_law_pick, defBody s_law_pick, defScope s_law_pick, [], []⟩
def d_law_below : He.DefD := ⟨("_law_below", none), "_law_below", "_law_below", defArgs s_law_below, defBody s_law_below, defScope s_law_below, [], []⟩
def d_law_up : He.DefD := ⟨("_law_up", none), "_law_up", "_law_up", defArgs s_law_up, defBody s_law_up, defScope s_law_up, [], []⟩
def d_law_names : He.DefD := ⟨("_law_names", none), "_law_names", "_law_names", defArgs s_law_names, defBody s_law_names, defScope s_law_names, [], []⟩
def d_law_places : He.DefD := ⟨("_law_places", none), "_law_places", "_law_places", defArgs s_law_places, defBody s_law_places, defScope s_law_places, [], []⟩
def d_law_site : He.DefD := ⟨("_law_site", none), "_law_site", "_law_site", defArgs s_law_site, defBody s_law_site, defScope s_law_site, [], []⟩
def d_law_table : He.DefD := ⟨("_law_table", none), "_law_table", "_law_table", defArgs s_law_table, defBody s_law_table, defScope s_law_table, [], []⟩
def d_law_exchange : He.DefD := ⟨("_law_exchange", none), "_law_exchange", "_law_exchange", defArgs s_law_exchange, defBody s_law_exchange, defScope s_law_exchange, [], []⟩
def d_law_kind : He.DefD := ⟨("_law_kind", none), "_law_kind", "_law_kind", defArgs s_law_kind, defBody s_law_kind, defScope s_law_kind, [], []⟩
def d_law_above : He.DefD := ⟨("_law_above", none), "_law_above", "_law_above", defArgs s_law_above, defBody s_law_above, defScope s_law_above, [], []⟩
def d_law_spots : He.DefD := ⟨("_law_spots", none), "_law_spots", "_law_spots", defArgs s_law_spots, defBody s_law_spots, defScope s_law_spots, [], []⟩
def d_law_steps : He.DefD := ⟨("_law_steps", none), "_law_steps", "_law_steps", defArgs s_law_steps, defBody s_law_steps, defScope s_law_steps, [], []⟩
def d_law_number : He.DefD := ⟨("_law_number", none), "_law_number", "_law_number", defArgs s_law_number, defBody s_law_number, defScope s_law_number, [], []⟩
def d_law_sentences : He.DefD := ⟨("_law_sentences", none), "_law_sentences", "_law_sentences", defArgs s_law_sentences, defBody s_law_sentences, defScope s_law_sentences, [], []⟩
def d_law_pairs : He.DefD := ⟨("_law_pairs", none), "_law_pairs", "_law_pairs", defArgs s_law_pairs, defBody s_law_pairs, defScope s_law_pairs, [], []⟩
def d_law_rows : He.DefD := ⟨("_law_rows", none), "_law_rows", "_law_rows", defArgs s_law_rows, defBody s_law_rows, defScope s_law_rows, [], []⟩
def d_law_subsets : He.DefD := ⟨("_law_subsets", none), "_law_subsets", "_law_subsets", defArgs s_law_subsets, defBody s_law_subsets, defScope s_law_subsets, [], []⟩
def d_law_is_strict : He.DefD := ⟨("_law_is_strict", none), "_law_is_strict", "_law_is_strict", defArgs s_law_is_strict, defBody s_law_is_strict, defScope s_law_is_strict, [], []⟩
def d_law_reached : He.DefD := ⟨("_law_reached", none), "_law_reached", "_law_reached", defArgs s_law_reached, defBody s_law_reached, defScope s_law_reached, [], []⟩
def d_law_right : He.DefD := ⟨("_law_right", none), "_law_right", "_law_right", defArgs s_law_right, defBody s_law_right, defScope s_law_right, [], []⟩
def d_law : He.DefD := ⟨("law", none), "law", "law", defArgs s_law, defBody s_law, defScope s_law, [], []⟩
def dPut_init : He.DefD := ⟨("Put", some "__init__"), "__init__", "Step.__init__", defArgs sStep_init, defBody sStep_init, defScope sStep_init, [], []⟩
def dTake_init : He.DefD := ⟨("Take", some "__init__"), "__init__", "Step.__init__", defArgs sStep_init, defBody sStep_init, defScope sStep_init, [], []⟩
def dEdit_init : He.DefD := ⟨("Edit", some "__init__"), "__init__", "Step.__init__", defArgs sStep_init, defBody sStep_init, defScope sStep_init, [], []⟩
def dTable_init : He.DefD := ⟨("Table", some "__init__"), "__init__", "Table.__init__", defArgs sTable_init, defBody sTable_init, defScope sTable_init, [.non], []⟩
def dTable_getitem : He.DefD := ⟨("Table", some "__getitem__"), "__getitem__", "Table.__getitem__", defArgs sTable_getitem, defBody sTable_getitem, defScope sTable_getitem, [], []⟩
def dTable_contains : He.DefD := ⟨("Table", some "__contains__"), "__contains__", "Table.__contains__", defArgs sTable_contains, defBody sTable_contains, defScope sTable_contains, [], []⟩
def dTable_len : He.DefD := ⟨("Table", some "__len__"), "__len__", "Table.__len__", defArgs sTable_len, defBody sTable_len, defScope sTable_len, [], []⟩
def dTable_cells : He.DefD := ⟨("Table", some "cells"), "cells", "Table.cells", defArgs sTable_cells, defBody sTable_cells, defScope sTable_cells, [], []⟩
def dTable_copy : He.DefD := ⟨("Table", some "copy"), "copy", "Table.copy", defArgs sTable_copy, defBody sTable_copy, defScope sTable_copy, [], []⟩
def dExchange_init : He.DefD := ⟨("Exchange", some "__init__"), "__init__", "Exchange.__init__", defArgs sExchange_init, defBody sExchange_init, defScope sExchange_init, [], []⟩
def dExchange_first_copy : He.DefD := ⟨("Exchange", some "first_copy"), "first_copy", "Exchange.first_copy", defArgs sExchange_first_copy, defBody sExchange_first_copy, defScope sExchange_first_copy, [], []⟩
def dExchange_rows_at : He.DefD := ⟨("Exchange", some "rows_at"), "rows_at", "Exchange.rows_at", defArgs sExchange_rows_at, defBody sExchange_rows_at, defScope sExchange_rows_at, [], []⟩
def dExchange_places_divided : He.DefD := ⟨("Exchange", some "places_divided"), "places_divided", "Exchange.places_divided", defArgs sExchange_places_divided, defBody sExchange_places_divided, defScope sExchange_places_divided, [], []⟩
def dExchange_steps_told : He.DefD := ⟨("Exchange", some "steps_told"), "steps_told", "Exchange.steps_told", defArgs sExchange_steps_told, defBody sExchange_steps_told, defScope sExchange_steps_told, [], []⟩
def dExchange_kind_at : He.DefD := ⟨("Exchange", some "kind_at"), "kind_at", "Exchange.kind_at", defArgs sExchange_kind_at, defBody sExchange_kind_at, defScope sExchange_kind_at, [], []⟩
def dExchange_place_above : He.DefD := ⟨("Exchange", some "place_above"), "place_above", "Exchange.place_above", defArgs sExchange_place_above, defBody sExchange_place_above, defScope sExchange_place_above, [], []⟩
def dExchange_sentence_at : He.DefD := ⟨("Exchange", some "sentence_at"), "sentence_at", "Exchange.sentence_at", defArgs sExchange_sentence_at, defBody sExchange_sentence_at, defScope sExchange_sentence_at, [], []⟩
def dExchange_sentences_told : He.DefD := ⟨("Exchange", some "sentences_told"), "sentences_told", "Exchange.sentences_told", defArgs sExchange_sentences_told, defBody sExchange_sentences_told, defScope sExchange_sentences_told, [], []⟩
def dExchange_len : He.DefD := ⟨("Exchange", some "__len__"), "__len__", "Exchange.__len__", defArgs sExchange_len, defBody sExchange_len, defScope sExchange_len, [], []⟩
def dGround_init : He.DefD := ⟨("Ground", some "__init__"), "__init__", "Ground.__init__", defArgs sGround_init, defBody sGround_init, defScope sGround_init, [], []⟩
def dGround_numbers_of : He.DefD := ⟨("Ground", some "numbers_of"), "numbers_of", "Ground.numbers_of", defArgs sGround_numbers_of, defBody sGround_numbers_of, defScope sGround_numbers_of, [], []⟩
def dGround_rows_at : He.DefD := ⟨("Ground", some "rows_at"), "rows_at", "Ground.rows_at", defArgs sGround_rows_at, defBody sGround_rows_at, defScope sGround_rows_at, [], []⟩
def dGround_next_steps : He.DefD := ⟨("Ground", some "next_steps"), "next_steps", "Ground.next_steps", defArgs sGround_next_steps, defBody sGround_next_steps, defScope sGround_next_steps, [], []⟩
def dGround_layers : He.DefD := ⟨("Ground", some "layers"), "layers", "Ground.layers", defArgs sGround_layers, defBody sGround_layers, defScope sGround_layers, [], []⟩
def dGround_needs : He.DefD := ⟨("Ground", some "needs"), "needs", "Ground.needs", defArgs sGround_needs, defBody sGround_needs, defScope sGround_needs, [], []⟩
def dGround_steps_within : He.DefD := ⟨("Ground", some "steps_within"), "steps_within", "Ground.steps_within", defArgs sGround_steps_within, defBody sGround_steps_within, defScope sGround_steps_within, [], []⟩
def dGround_reached : He.DefD := ⟨("Ground", some "reached"), "reached", "Ground.reached", defArgs sGround_reached, defBody sGround_reached, defScope sGround_reached, [], []⟩
def dGround_standing_of : He.DefD := ⟨("Ground", some "standing_of"), "standing_of", "Ground.standing_of", defArgs sGround_standing_of, defBody sGround_standing_of, defScope sGround_standing_of, [], []⟩
def fn0 : List He.DefD := [d_is_name, d_is_text, d_names_in, d_text_of, d_parts_at, d_text_at, d_step_of, d_need_columns, d_need_keys, d_is_cells, d_joined_rows, d_text_above, d_answers_of, d_kind_of, d_row_of, d_changed_columns, d_steps_at, d_steps_in_rings, d_ring, d_need_no_ring]
def fn1 : List He.DefD := [d_need_whole_rows, d_need_orders, d_gain_of, d_barred, d_shows_barred, d_law_pen, d_law_draw, d_law_pick, d_law_below, d_law_up, d_law_names, d_law_places, d_law_site, d_law_table, d_law_exchange, d_law_kind, d_law_above, d_law_spots, d_law_steps, d_law_number]
def fn2 : List He.DefD := [d_law_sentences, d_law_pairs, d_law_rows, d_law_subsets, d_law_is_strict, d_law_reached, d_law_right, d_law, dPut_init, dTake_init, dEdit_init, dTable_init, dTable_getitem, dTable_contains, dTable_len, dTable_cells, dTable_copy, dExchange_init, dExchange_first_copy, dExchange_rows_at]
def fn3 : List He.DefD := [dExchange_places_divided, dExchange_steps_told, dExchange_kind_at, dExchange_place_above, dExchange_sentence_at, dExchange_sentences_told, dExchange_len, dGround_init, dGround_numbers_of, dGround_rows_at, dGround_next_steps, dGround_layers, dGround_needs, dGround_steps_within, dGround_reached, dGround_standing_of]
def fn : List He.DefD := fn0 ++ fn1 ++ fn2 ++ fn3
def gPlaces : NX.DefA := ⟨fun K => propG K "Table" "places", "places", "Table.places", sTable_places⟩
def gn : List NX.DefA := [gPlaces]
def names0 : List PySem.Str := [PySem.Str.ofString "_wall", PySem.Str.ofString "TableError", PySem.Str.ofString "BadName", PySem.Str.ofString "BadPlace", PySem.Str.ofString "BadColumn", PySem.Str.ofString "BadCells", PySem.Str.ofString "NoRow", PySem.Str.ofString "UnlikeColumns", PySem.Str.ofString "TooMany", PySem.Str.ofString "NoStep", PySem.Str.ofString "Ringed", PySem.Str.ofString "Divided", PySem.Str.ofString "SIGNS", PySem.Str.ofString "LONGEST_NAME", PySem.Str.ofString "is_name", PySem.Str.ofString "MOST_NAMES", PySem.Str.ofString "is_text", PySem.Str.ofString "names_in", PySem.Str.ofString "text_of", PySem.Str.ofString "Place"]
def names1 : List PySem.Str := [PySem.Str.ofString "parts_at", PySem.Str.ofString "text_at", PySem.Str.ofString "Step", PySem.Str.ofString "Put", PySem.Str.ofString "Take", PySem.Str.ofString "Edit", PySem.Str.ofString "Part", PySem.Str.ofString "BACK", PySem.Str.ofString "step_of", PySem.Str.ofString "MOST_ROWS", PySem.Str.ofString "MOST_COLUMNS", PySem.Str.ofString "need_columns", PySem.Str.ofString "need_keys", PySem.Str.ofString "is_cells", PySem.Str.ofString "joined_rows", PySem.Str.ofString "Table", PySem.Str.ofString "OLD", PySem.Str.ofString "NEW", PySem.Str.ofString "TURNED", PySem.Str.ofString "KEPT"]
def names2 : List PySem.Str := [PySem.Str.ofString "text_above", PySem.Str.ofString "answers_of", PySem.Str.ofString "kind_of", PySem.Str.ofString "row_of", PySem.Str.ofString "part_of", PySem.Str.ofString "changed_columns", PySem.Str.ofString "steps_at", PySem.Str.ofString "Exchange", PySem.Str.ofString "steps_in_rings", PySem.Str.ofString "ring", PySem.Str.ofString "need_no_ring", PySem.Str.ofString "MOST_STANDINGS", PySem.Str.ofString "need_whole_rows", PySem.Str.ofString "need_orders", PySem.Str.ofString "gain_of", PySem.Str.ofString "Ground", PySem.Str.ofString "barred", PySem.Str.ofString "shows_barred", PySem.Str.ofString "_law_pen", PySem.Str.ofString "_law_draw"]
def names3 : List PySem.Str := [PySem.Str.ofString "_law_pick", PySem.Str.ofString "_law_below", PySem.Str.ofString "_law_up", PySem.Str.ofString "_law_names", PySem.Str.ofString "_law_places", PySem.Str.ofString "_law_site", PySem.Str.ofString "_law_table", PySem.Str.ofString "_law_exchange", PySem.Str.ofString "_law_kind", PySem.Str.ofString "_law_above", PySem.Str.ofString "_law_spots", PySem.Str.ofString "_law_steps", PySem.Str.ofString "_law_number", PySem.Str.ofString "_law_sentences", PySem.Str.ofString "_law_pairs", PySem.Str.ofString "_law_rows", PySem.Str.ofString "_law_subsets", PySem.Str.ofString "_law_is_strict", PySem.Str.ofString "_law_reached", PySem.Str.ofString "_law_right"]
def names : List PySem.Str := names0 ++ names1 ++ names2 ++ names3
abbrev R : PySem.W.OpenRow := PySem.W.OpenLaw.row PySem.Challenge.rw_nearestsays_k74_whole_barred_rooms_liste
abbrev hk : PySem.W.Hook := NX.hookN 5 fa xs fn gn
def ob (s : PySem.W.SharedT) : NX.AlN := NX.obsNG 5 fa xs fn gn (HandSHeadRun.getT s)
theorem ob_eq (s : PySem.W.SharedT) : ob s = hk.obs s.abs := NX.obsNG_eq (HandSHeadRun.getT_eq s)
/-- the first look: the program's own, and the facts by names -/
abbrev hkA : PySem.W.Hook := NX.hookN 5 fa xs [] []
def obA (s : PySem.W.SharedT) : NX.AlN := NX.obsNG 5 fa xs [] [] (HandSHeadRun.getT s)
/-- the second look: the defs -/
def LookB (w : World) : Prop := ∀ os : OsState, (HandSHeadRun.endF (HandSHeadRun.stepQ (HandSHeadRun.denQ HandSHeadRun.tabQ) R.prog w) 11000 R.prog w os).map (fun s => NX.obsNG 5 [] [] fn gn (HandSHeadRun.getT s)) = some (NX.valN fn gn)
theorem run_both {w : World} (h1 : HandSHeadRun.RunEq R (PySem.W.view R.prog [90]) hkA obA 11000 names w) (h2 : LookB w) : HandSHeadRun.RunEq R (PySem.W.view R.prog [90]) hk ob 11000 names w := by
  intro os
  have a := h1 os
  have b := h2 os
  cases e : HandSHeadRun.endF (HandSHeadRun.stepQ (HandSHeadRun.denQ HandSHeadRun.tabQ) R.prog w) 11000 R.prog w os with
  | none =>
    rw [e] at b
    cases b
  | some s =>
    rw [e] at a b
    have b := Option.some.inj b
    have a := Option.some.inj a
    have a1 := congrArg Prod.fst a
    have a2 := congrArg (fun z => z.2.1) a
    have a3 := congrArg (fun z => z.2.2) a
    show some _ = some _
    exact congrArg some (Prod.ext a1 (Prod.ext a2 (NX.obs_both a3 b)))
theorem runFA (w : World) : HandSHeadRun.RunEq R (PySem.W.view R.prog [90]) hkA obA 11000 names (w.withFollow "special-get-raises" false) := by
  intro os
  kernel_rfl
theorem runFB (w : World) : LookB (w.withFollow "special-get-raises" false) := by
  intro os
  kernel_rfl
theorem runTA (w : World) : HandSHeadRun.RunEq R (PySem.W.view R.prog [90]) hkA obA 11000 names (w.withFollow "special-get-raises" true) := by
  intro os
  kernel_rfl
theorem runTB (w : World) : LookB (w.withFollow "special-get-raises" true) := by
  intro os
  kernel_rfl
theorem run (w : World) : HandSHeadRun.RunEq R (PySem.W.view R.prog [90]) hk ob 11000 names w := PySem.W.byRow2 "special-get-raises" (fun w => run_both (runFA w) (runFB w)) (fun w => run_both (runTA w) (runTB w)) w
end NS
set_option Elab.async false
set_option linter.all false
set_option maxRecDepth 100000
/-! What the top leaves, by names. -/
namespace NS
open PySem PySem.Spec PyProof.Rows L2 He
/-- the written part and the module's names, as the head tells them -/
structure Tx (K : PySem.W.Frag) (mg : Str → Option Value) : Prop where
  c : NX.SaysN fa xs fn gn K
  h : ∃ h : Heap, K.In h ∧ h.Ns mainGlobals mg
section
variable {K : PySem.W.Frag} {mg : Str → Option Value}
theorem Tx.fa (T : Tx K mg) (i : Nat) {f : He.Fa} (e : NS.fa[i]? = some f) : f.ok K = true := T.c.fact (List.mem_of_getElem? e)
theorem Tx.xs (T : Tx K mg) (i : Nat) {f : PySem.W.Frag → Bool} (e : NS.xs[i]? = some f) : f K = true := T.c.more (List.mem_of_getElem? e)
theorem Tx.fn (T : Tx K mg) (i : Nat) {d : DefD} (e : NS.fn[i]? = some d) : ∃ fd, FunD K d.name d.qual d.params d.body d.scope (d.dvs K) (d.kws K) (fAd K d.at_) fd := T.c.def_ (List.mem_of_getElem? e)
theorem Tx.glo (T : Tx K mg) (i : Nat) {x : Str} (e : NS.fa[i]? = some (.glo x)) : mg x = some (.ref (ga K x)) := by
  obtain ⟨h, X, G⟩ := T.h
  exact glo_ok X G (T.fa i e)
theorem Tx.free (T : Tx K mg) (i : Nat) {x : Str} (e : NS.fa[i]? = some (.free x)) : mg x = none := by
  obtain ⟨h, X, G⟩ := T.h
  exact free_ok X G (T.fa i e)
theorem Tx.str (T : Tx K mg) (i : Nat) {x z : Str} (e : NS.fa[i]? = some (.str x z)) : ∃ u, mg x = some u ∧ RelV (.str z) u := by
  obtain ⟨h, X, G⟩ := T.h
  obtain ⟨t, e⟩ := str_ok X G (T.fa i e)
  exact ⟨_, e, t, rfl⟩
theorem Tx.int (T : Tx K mg) (i : Nat) {x : Str} {z : Int} (e : NS.fa[i]? = some (.int x z)) : ∃ u, mg x = some u ∧ RelV (.int z) u := by
  obtain ⟨h, X, G⟩ := T.h
  obtain ⟨t, e⟩ := int_ok X G (T.fa i e)
  exact ⟨_, e, t, rfl⟩
theorem con_ok {x f z : Str} (h : conB x f z K = true) : ∃ u, Con K (ga K x) f (.str z) u := by
  unfold conB at h
  split at h
  · rename_i y t e
    obtain ⟨h1, h⟩ := ba h
    obtain ⟨h2, h3⟩ := ba h
    have e1 := of_decide_eq_true h1
    subst e1
    exact ⟨_, e, ⟨t, rfl⟩, eqO_ok h2, by simpa using h3⟩
  · cases h
theorem prop_ok {x f : Str} (h : propB x f K = true) : PropOf K (ga K x) f (propP K x f) (propG K x f) := by
  unfold propB at h
  obtain ⟨h1, h⟩ := ba h
  obtain ⟨h2, h⟩ := ba h
  obtain ⟨h3, h4⟩ := ba h
  refine ⟨eqO_ok h1, eqO_ok h2, of_decide_eq_true h3, ?_⟩
  split at h4
  · rename_i g r e
    have e1 := of_decide_eq_true h4
    subst e1
    exact ⟨r, e⟩
  · cases h4
theorem clsInt_ok {x f : Str} {i : Int} (h : clsIntB x f i K = true) : ClX.CRead K (ga K x) (.type "type") ∧ ∃ u, ClX.CVal K (ga K x) (.type "type") f (.int i) u := by
  unfold clsIntB at h
  obtain ⟨h1, h⟩ := ba h
  obtain ⟨h2, h3⟩ := ba h
  refine ⟨⟨h1, eqO_ok h2⟩, ?_⟩
  split at h3
  · rename_i j t e
    have e1 := of_decide_eq_true h3
    subst e1
    exact ⟨_, e, t, rfl⟩
  · cases h3
theorem item_ok {x : Str} (h : itemB x K = true) : PySem.W.noSeq K (ga K x) = true ∧ PySem.W.fnIn K (ma K (ga K x) "__getitem__") = true := ba h
theorem Tx.z_len (T : Tx K mg) : mg "len" = none := T.free 0 rfl
theorem Tx.z_isinstance (T : Tx K mg) : mg "isinstance" = none := T.free 1 rfl
theorem Tx.z_str (T : Tx K mg) : mg "str" = none := T.free 2 rfl
theorem Tx.z_int (T : Tx K mg) : mg "int" = none := T.free 3 rfl
theorem Tx.z_dict (T : Tx K mg) : mg "dict" = none := T.free 4 rfl
theorem Tx.z_list (T : Tx K mg) : mg "list" = none := T.free 5 rfl
theorem Tx.z_tuple (T : Tx K mg) : mg "tuple" = none := T.free 6 rfl
theorem Tx.z_sorted (T : Tx K mg) : mg "sorted" = none := T.free 7 rfl
theorem Tx.z_set (T : Tx K mg) : mg "set" = none := T.free 8 rfl
theorem Tx.z_range (T : Tx K mg) : mg "range" = none := T.free 9 rfl
theorem Tx.z_enumerate (T : Tx K mg) : mg "enumerate" = none := T.free 10 rfl
theorem Tx.z_all (T : Tx K mg) : mg "all" = none := T.free 11 rfl
theorem Tx.z_min (T : Tx K mg) : mg "min" = none := T.free 12 rfl
theorem Tx.z_max (T : Tx K mg) : mg "max" = none := T.free 13 rfl
theorem Tx.z_sum (T : Tx K mg) : mg "sum" = none := T.free 14 rfl
theorem Tx.z_repr (T : Tx K mg) : mg "repr" = none := T.free 15 rfl
theorem Tx.z_abs (T : Tx K mg) : mg "abs" = none := T.free 16 rfl
theorem Tx.z_bool (T : Tx K mg) : mg "bool" = none := T.free 17 rfl
theorem Tx.g_is_name (T : Tx K mg) : mg "is_name" = some (.ref (ga K "is_name")) := T.glo 18 rfl
theorem Tx.g_is_text (T : Tx K mg) : mg "is_text" = some (.ref (ga K "is_text")) := T.glo 19 rfl
theorem Tx.g_names_in (T : Tx K mg) : mg "names_in" = some (.ref (ga K "names_in")) := T.glo 20 rfl
theorem Tx.g_text_of (T : Tx K mg) : mg "text_of" = some (.ref (ga K "text_of")) := T.glo 21 rfl
theorem Tx.g_parts_at (T : Tx K mg) : mg "parts_at" = some (.ref (ga K "parts_at")) := T.glo 22 rfl
theorem Tx.g_text_at (T : Tx K mg) : mg "text_at" = some (.ref (ga K "text_at")) := T.glo 23 rfl
theorem Tx.g_step_of (T : Tx K mg) : mg "step_of" = some (.ref (ga K "step_of")) := T.glo 24 rfl
theorem Tx.g_need_columns (T : Tx K mg) : mg "need_columns" = some (.ref (ga K "need_columns")) := T.glo 25 rfl
theorem Tx.g_need_keys (T : Tx K mg) : mg "need_keys" = some (.ref (ga K "need_keys")) := T.glo 26 rfl
theorem Tx.g_is_cells (T : Tx K mg) : mg "is_cells" = some (.ref (ga K "is_cells")) := T.glo 27 rfl
theorem Tx.g_joined_rows (T : Tx K mg) : mg "joined_rows" = some (.ref (ga K "joined_rows")) := T.glo 28 rfl
theorem Tx.g_text_above (T : Tx K mg) : mg "text_above" = some (.ref (ga K "text_above")) := T.glo 29 rfl
theorem Tx.g_answers_of (T : Tx K mg) : mg "answers_of" = some (.ref (ga K "answers_of")) := T.glo 30 rfl
theorem Tx.g_kind_of (T : Tx K mg) : mg "kind_of" = some (.ref (ga K "kind_of")) := T.glo 31 rfl
theorem Tx.g_row_of (T : Tx K mg) : mg "row_of" = some (.ref (ga K "row_of")) := T.glo 32 rfl
theorem Tx.g_changed_columns (T : Tx K mg) : mg "changed_columns" = some (.ref (ga K "changed_columns")) := T.glo 33 rfl
theorem Tx.g_steps_at (T : Tx K mg) : mg "steps_at" = some (.ref (ga K "steps_at")) := T.glo 34 rfl
theorem Tx.g_steps_in_rings (T : Tx K mg) : mg "steps_in_rings" = some (.ref (ga K "steps_in_rings")) := T.glo 35 rfl
theorem Tx.g_ring (T : Tx K mg) : mg "ring" = some (.ref (ga K "ring")) := T.glo 36 rfl
theorem Tx.g_need_no_ring (T : Tx K mg) : mg "need_no_ring" = some (.ref (ga K "need_no_ring")) := T.glo 37 rfl
theorem Tx.g_need_whole_rows (T : Tx K mg) : mg "need_whole_rows" = some (.ref (ga K "need_whole_rows")) := T.glo 38 rfl
theorem Tx.g_need_orders (T : Tx K mg) : mg "need_orders" = some (.ref (ga K "need_orders")) := T.glo 39 rfl
theorem Tx.g_gain_of (T : Tx K mg) : mg "gain_of" = some (.ref (ga K "gain_of")) := T.glo 40 rfl
theorem Tx.g_barred (T : Tx K mg) : mg "barred" = some (.ref (ga K "barred")) := T.glo 41 rfl
theorem Tx.g_shows_barred (T : Tx K mg) : mg "shows_barred" = some (.ref (ga K "shows_barred")) := T.glo 42 rfl
theorem Tx.g_law_pen (T : Tx K mg) : mg "_law_pen" = some (.ref (ga K "_law_pen")) := T.glo 43 rfl
theorem Tx.g_law_draw (T : Tx K mg) : mg "_law_draw" = some (.ref (ga K "_law_draw")) := T.glo 44 rfl
theorem Tx.g_law_pick (T : Tx K mg) : mg "_law_pick" = some (.ref (ga K "_law_pick")) := T.glo 45 rfl
theorem Tx.g_law_below (T : Tx K mg) : mg "_law_below" = some (.ref (ga K "_law_below")) := T.glo 46 rfl
theorem Tx.g_law_up (T : Tx K mg) : mg "_law_up" = some (.ref (ga K "_law_up")) := T.glo 47 rfl
theorem Tx.g_law_names (T : Tx K mg) : mg "_law_names" = some (.ref (ga K "_law_names")) := T.glo 48 rfl
theorem Tx.g_law_places (T : Tx K mg) : mg "_law_places" = some (.ref (ga K "_law_places")) := T.glo 49 rfl
theorem Tx.g_law_site (T : Tx K mg) : mg "_law_site" = some (.ref (ga K "_law_site")) := T.glo 50 rfl
theorem Tx.g_law_table (T : Tx K mg) : mg "_law_table" = some (.ref (ga K "_law_table")) := T.glo 51 rfl
theorem Tx.g_law_exchange (T : Tx K mg) : mg "_law_exchange" = some (.ref (ga K "_law_exchange")) := T.glo 52 rfl
theorem Tx.g_law_kind (T : Tx K mg) : mg "_law_kind" = some (.ref (ga K "_law_kind")) := T.glo 53 rfl
theorem Tx.g_law_above (T : Tx K mg) : mg "_law_above" = some (.ref (ga K "_law_above")) := T.glo 54 rfl
theorem Tx.g_law_spots (T : Tx K mg) : mg "_law_spots" = some (.ref (ga K "_law_spots")) := T.glo 55 rfl
theorem Tx.g_law_steps (T : Tx K mg) : mg "_law_steps" = some (.ref (ga K "_law_steps")) := T.glo 56 rfl
theorem Tx.g_law_number (T : Tx K mg) : mg "_law_number" = some (.ref (ga K "_law_number")) := T.glo 57 rfl
theorem Tx.g_law_sentences (T : Tx K mg) : mg "_law_sentences" = some (.ref (ga K "_law_sentences")) := T.glo 58 rfl
theorem Tx.g_law_pairs (T : Tx K mg) : mg "_law_pairs" = some (.ref (ga K "_law_pairs")) := T.glo 59 rfl
theorem Tx.g_law_rows (T : Tx K mg) : mg "_law_rows" = some (.ref (ga K "_law_rows")) := T.glo 60 rfl
theorem Tx.g_law_subsets (T : Tx K mg) : mg "_law_subsets" = some (.ref (ga K "_law_subsets")) := T.glo 61 rfl
theorem Tx.g_law_is_strict (T : Tx K mg) : mg "_law_is_strict" = some (.ref (ga K "_law_is_strict")) := T.glo 62 rfl
theorem Tx.g_law_reached (T : Tx K mg) : mg "_law_reached" = some (.ref (ga K "_law_reached")) := T.glo 63 rfl
theorem Tx.g_law_right (T : Tx K mg) : mg "_law_right" = some (.ref (ga K "_law_right")) := T.glo 64 rfl
theorem Tx.g_law (T : Tx K mg) : mg "law" = some (.ref (ga K "law")) := T.glo 65 rfl
theorem Tx.g_Place (T : Tx K mg) : mg "Place" = some (.ref (ga K "Place")) := T.glo 66 rfl
theorem Tx.g_Put (T : Tx K mg) : mg "Put" = some (.ref (ga K "Put")) := T.glo 67 rfl
theorem Tx.g_Take (T : Tx K mg) : mg "Take" = some (.ref (ga K "Take")) := T.glo 68 rfl
theorem Tx.g_Edit (T : Tx K mg) : mg "Edit" = some (.ref (ga K "Edit")) := T.glo 69 rfl
theorem Tx.g_Table (T : Tx K mg) : mg "Table" = some (.ref (ga K "Table")) := T.glo 70 rfl
theorem Tx.g_Exchange (T : Tx K mg) : mg "Exchange" = some (.ref (ga K "Exchange")) := T.glo 71 rfl
theorem Tx.g_Ground (T : Tx K mg) : mg "Ground" = some (.ref (ga K "Ground")) := T.glo 72 rfl
theorem Tx.v_OLD (T : Tx K mg) : ∃ u, mg "OLD" = some u ∧ RelV (.str "old") u := T.str 73 rfl
theorem Tx.v_NEW (T : Tx K mg) : ∃ u, mg "NEW" = some u ∧ RelV (.str "new") u := T.str 74 rfl
theorem Tx.v_TURNED (T : Tx K mg) : ∃ u, mg "TURNED" = some u ∧ RelV (.str "turned") u := T.str 75 rfl
theorem Tx.v_KEPT (T : Tx K mg) : ∃ u, mg "KEPT" = some u ∧ RelV (.str "kept") u := T.str 76 rfl
theorem Tx.v_SIGNS (T : Tx K mg) : ∃ u, mg "SIGNS" = some u ∧ RelV (.str "abcdefghijklmnopqrstuvwxyz0123456789") u := T.str 77 rfl
theorem Tx.v_LONGEST_NAME (T : Tx K mg) : ∃ u, mg "LONGEST_NAME" = some u ∧ RelV (.int 8) u := T.int 78 rfl
theorem Tx.v_MOST_NAMES (T : Tx K mg) : ∃ u, mg "MOST_NAMES" = some u ∧ RelV (.int 8) u := T.int 79 rfl
theorem Tx.v_MOST_ROWS (T : Tx K mg) : ∃ u, mg "MOST_ROWS" = some u ∧ RelV (.int 40) u := T.int 80 rfl
theorem Tx.v_MOST_COLUMNS (T : Tx K mg) : ∃ u, mg "MOST_COLUMNS" = some u ∧ RelV (.int 3) u := T.int 81 rfl
theorem Tx.v_MOST_STANDINGS (T : Tx K mg) : ∃ u, mg "MOST_STANDINGS" = some u ∧ RelV (.int 2000) u := T.int 82 rfl
theorem Tx.cl_Put (T : Tx K mg) : Cls K (ga K "Put") := cls_ok (T.fa 83 rfl)
theorem Tx.mk_Put (T : Tx K mg) : Mk K (ga K "Put") (ma K (ga K "Put") "__init__") := mkr_ok (T.fa 84 rfl)
theorem Tx.n_Put_word (T : Tx K mg) : NoAttr K (ga K "Put") "word" := noat_ok (T.fa 85 rfl)
theorem Tx.n_Put_place (T : Tx K mg) : NoAttr K (ga K "Put") "place" := noat_ok (T.fa 86 rfl)
theorem Tx.n_Put_columns (T : Tx K mg) : NoAttr K (ga K "Put") "columns" := noat_ok (T.fa 87 rfl)
theorem Tx.n_Put_held (T : Tx K mg) : NoAttr K (ga K "Put") "held" := noat_ok (T.fa 88 rfl)
theorem Tx.cl_Take (T : Tx K mg) : Cls K (ga K "Take") := cls_ok (T.fa 89 rfl)
theorem Tx.mk_Take (T : Tx K mg) : Mk K (ga K "Take") (ma K (ga K "Take") "__init__") := mkr_ok (T.fa 90 rfl)
theorem Tx.n_Take_word (T : Tx K mg) : NoAttr K (ga K "Take") "word" := noat_ok (T.fa 91 rfl)
theorem Tx.n_Take_place (T : Tx K mg) : NoAttr K (ga K "Take") "place" := noat_ok (T.fa 92 rfl)
theorem Tx.n_Take_columns (T : Tx K mg) : NoAttr K (ga K "Take") "columns" := noat_ok (T.fa 93 rfl)
theorem Tx.n_Take_held (T : Tx K mg) : NoAttr K (ga K "Take") "held" := noat_ok (T.fa 94 rfl)
theorem Tx.cl_Edit (T : Tx K mg) : Cls K (ga K "Edit") := cls_ok (T.fa 95 rfl)
theorem Tx.mk_Edit (T : Tx K mg) : Mk K (ga K "Edit") (ma K (ga K "Edit") "__init__") := mkr_ok (T.fa 96 rfl)
theorem Tx.n_Edit_word (T : Tx K mg) : NoAttr K (ga K "Edit") "word" := noat_ok (T.fa 97 rfl)
theorem Tx.n_Edit_place (T : Tx K mg) : NoAttr K (ga K "Edit") "place" := noat_ok (T.fa 98 rfl)
theorem Tx.n_Edit_columns (T : Tx K mg) : NoAttr K (ga K "Edit") "columns" := noat_ok (T.fa 99 rfl)
theorem Tx.n_Edit_held (T : Tx K mg) : NoAttr K (ga K "Edit") "held" := noat_ok (T.fa 100 rfl)
theorem Tx.cl_Table (T : Tx K mg) : Cls K (ga K "Table") := cls_ok (T.fa 101 rfl)
theorem Tx.mk_Table (T : Tx K mg) : Mk K (ga K "Table") (ma K (ga K "Table") "__init__") := mkr_ok (T.fa 102 rfl)
theorem Tx.n_Table_columns (T : Tx K mg) : NoAttr K (ga K "Table") "columns" := noat_ok (T.fa 103 rfl)
theorem Tx.n_Table_row_of (T : Tx K mg) : NoAttr K (ga K "Table") "row_of" := noat_ok (T.fa 104 rfl)
theorem Tx.cl_Exchange (T : Tx K mg) : Cls K (ga K "Exchange") := cls_ok (T.fa 105 rfl)
theorem Tx.mk_Exchange (T : Tx K mg) : Mk K (ga K "Exchange") (ma K (ga K "Exchange") "__init__") := mkr_ok (T.fa 106 rfl)
theorem Tx.n_Exchange_columns (T : Tx K mg) : NoAttr K (ga K "Exchange") "columns" := noat_ok (T.fa 107 rfl)
theorem Tx.n_Exchange_held (T : Tx K mg) : NoAttr K (ga K "Exchange") "held" := noat_ok (T.fa 108 rfl)
theorem Tx.n_Exchange_answers (T : Tx K mg) : NoAttr K (ga K "Exchange") "answers" := noat_ok (T.fa 109 rfl)
theorem Tx.n_Exchange_spots (T : Tx K mg) : NoAttr K (ga K "Exchange") "spots" := noat_ok (T.fa 110 rfl)
theorem Tx.n_Exchange_divided (T : Tx K mg) : NoAttr K (ga K "Exchange") "divided" := noat_ok (T.fa 111 rfl)
theorem Tx.n_Exchange_steps (T : Tx K mg) : NoAttr K (ga K "Exchange") "steps" := noat_ok (T.fa 112 rfl)
theorem Tx.n_Exchange_numbers (T : Tx K mg) : NoAttr K (ga K "Exchange") "numbers" := noat_ok (T.fa 113 rfl)
theorem Tx.n_Exchange_sentences (T : Tx K mg) : NoAttr K (ga K "Exchange") "sentences" := noat_ok (T.fa 114 rfl)
theorem Tx.cl_Ground (T : Tx K mg) : Cls K (ga K "Ground") := cls_ok (T.fa 115 rfl)
theorem Tx.mk_Ground (T : Tx K mg) : Mk K (ga K "Ground") (ma K (ga K "Ground") "__init__") := mkr_ok (T.fa 116 rfl)
theorem Tx.n_Ground_many (T : Tx K mg) : NoAttr K (ga K "Ground") "many" := noat_ok (T.fa 117 rfl)
theorem Tx.n_Ground_begun (T : Tx K mg) : NoAttr K (ga K "Ground") "begun" := noat_ok (T.fa 118 rfl)
theorem Tx.n_Ground_gains (T : Tx K mg) : NoAttr K (ga K "Ground") "gains" := noat_ok (T.fa 119 rfl)
theorem Tx.n_Ground_bits (T : Tx K mg) : NoAttr K (ga K "Ground") "bits" := noat_ok (T.fa 120 rfl)
theorem Tx.n_Ground_ahead (T : Tx K mg) : NoAttr K (ga K "Ground") "ahead" := noat_ok (T.fa 121 rfl)
theorem Tx.m_Table_getitem (T : Tx K mg) : Meth K (ga K "Table") "__getitem__" (ma K (ga K "Table") "__getitem__") := meth_ok (T.fa 122 rfl)
theorem Tx.m_Table_contains (T : Tx K mg) : Meth K (ga K "Table") "__contains__" (ma K (ga K "Table") "__contains__") := meth_ok (T.fa 123 rfl)
theorem Tx.m_Table_len (T : Tx K mg) : Meth K (ga K "Table") "__len__" (ma K (ga K "Table") "__len__") := meth_ok (T.fa 124 rfl)
theorem Tx.m_Table_cells (T : Tx K mg) : Meth K (ga K "Table") "cells" (ma K (ga K "Table") "cells") := meth_ok (T.fa 125 rfl)
theorem Tx.m_Table_copy (T : Tx K mg) : Meth K (ga K "Table") "copy" (ma K (ga K "Table") "copy") := meth_ok (T.fa 126 rfl)
theorem Tx.m_Exchange_first_copy (T : Tx K mg) : Meth K (ga K "Exchange") "first_copy" (ma K (ga K "Exchange") "first_copy") := meth_ok (T.fa 127 rfl)
theorem Tx.m_Exchange_rows_at (T : Tx K mg) : Meth K (ga K "Exchange") "rows_at" (ma K (ga K "Exchange") "rows_at") := meth_ok (T.fa 128 rfl)
theorem Tx.m_Exchange_places_divided (T : Tx K mg) : Meth K (ga K "Exchange") "places_divided" (ma K (ga K "Exchange") "places_divided") := meth_ok (T.fa 129 rfl)
theorem Tx.m_Exchange_steps_told (T : Tx K mg) : Meth K (ga K "Exchange") "steps_told" (ma K (ga K "Exchange") "steps_told") := meth_ok (T.fa 130 rfl)
theorem Tx.m_Exchange_kind_at (T : Tx K mg) : Meth K (ga K "Exchange") "kind_at" (ma K (ga K "Exchange") "kind_at") := meth_ok (T.fa 131 rfl)
theorem Tx.m_Exchange_place_above (T : Tx K mg) : Meth K (ga K "Exchange") "place_above" (ma K (ga K "Exchange") "place_above") := meth_ok (T.fa 132 rfl)
theorem Tx.m_Exchange_sentence_at (T : Tx K mg) : Meth K (ga K "Exchange") "sentence_at" (ma K (ga K "Exchange") "sentence_at") := meth_ok (T.fa 133 rfl)
theorem Tx.m_Exchange_sentences_told (T : Tx K mg) : Meth K (ga K "Exchange") "sentences_told" (ma K (ga K "Exchange") "sentences_told") := meth_ok (T.fa 134 rfl)
theorem Tx.m_Exchange_len (T : Tx K mg) : Meth K (ga K "Exchange") "__len__" (ma K (ga K "Exchange") "__len__") := meth_ok (T.fa 135 rfl)
theorem Tx.m_Ground_numbers_of (T : Tx K mg) : Meth K (ga K "Ground") "numbers_of" (ma K (ga K "Ground") "numbers_of") := meth_ok (T.fa 136 rfl)
theorem Tx.m_Ground_rows_at (T : Tx K mg) : Meth K (ga K "Ground") "rows_at" (ma K (ga K "Ground") "rows_at") := meth_ok (T.fa 137 rfl)
theorem Tx.m_Ground_next_steps (T : Tx K mg) : Meth K (ga K "Ground") "next_steps" (ma K (ga K "Ground") "next_steps") := meth_ok (T.fa 138 rfl)
theorem Tx.m_Ground_layers (T : Tx K mg) : Meth K (ga K "Ground") "layers" (ma K (ga K "Ground") "layers") := meth_ok (T.fa 139 rfl)
theorem Tx.m_Ground_needs (T : Tx K mg) : Meth K (ga K "Ground") "needs" (ma K (ga K "Ground") "needs") := meth_ok (T.fa 140 rfl)
theorem Tx.m_Ground_steps_within (T : Tx K mg) : Meth K (ga K "Ground") "steps_within" (ma K (ga K "Ground") "steps_within") := meth_ok (T.fa 141 rfl)
theorem Tx.m_Ground_reached (T : Tx K mg) : Meth K (ga K "Ground") "reached" (ma K (ga K "Ground") "reached") := meth_ok (T.fa 142 rfl)
theorem Tx.m_Ground_standing_of (T : Tx K mg) : Meth K (ga K "Ground") "standing_of" (ma K (ga K "Ground") "standing_of") := meth_ok (T.fa 143 rfl)
theorem Tx.w_Put (T : Tx K mg) : ∃ u, Con K (ga K "Put") "WORD" (.str "put") u := con_ok (T.xs 0 rfl)
theorem Tx.w_Take (T : Tx K mg) : ∃ u, Con K (ga K "Take") "WORD" (.str "take") u := con_ok (T.xs 1 rfl)
theorem Tx.w_Edit (T : Tx K mg) : ∃ u, Con K (ga K "Edit") "WORD" (.str "edit") u := con_ok (T.xs 2 rfl)
theorem Tx.p_places (T : Tx K mg) : PropOf K (ga K "Table") "places" (propP K "Table" "places") (propG K "Table" "places") := prop_ok (T.xs 3 rfl)
theorem Tx.most (T : Tx K mg) : ClX.CRead K (ga K "Table") (.type "type") ∧ ∃ u, ClX.CVal K (ga K "Table") (.type "type") "MOST" (.int 40) u := clsInt_ok (T.xs 4 rfl)
theorem Tx.item (T : Tx K mg) : PySem.W.noSeq K (ga K "Table") = true ∧ PySem.W.fnIn K (ma K (ga K "Table") "__getitem__") = true := item_ok (T.xs 5 rfl)
theorem Tx.kit (T : Tx K mg) : PySem.W.kitOne K (.type "str") (.ref (ga K "Place")) = some false := of_decide_eq_true (T.xs 7 rfl)
theorem Tx.f_is_name (T : Tx K mg) : ∃ fd, FunD K "is_name" "is_name" (defArgs s_is_name) (defBody s_is_name) (defScope s_is_name) [] [] (ga K "is_name") fd := T.fn 0 (d := d_is_name) rfl
theorem Tx.f_is_text (T : Tx K mg) : ∃ fd, FunD K "is_text" "is_text" (defArgs s_is_text) (defBody s_is_text) (defScope s_is_text) [] [] (ga K "is_text") fd := T.fn 1 (d := d_is_text) rfl
theorem Tx.f_names_in (T : Tx K mg) : ∃ fd, FunD K "names_in" "names_in" (defArgs s_names_in) (defBody s_names_in) (defScope s_names_in) [] [] (ga K "names_in") fd := T.fn 2 (d := d_names_in) rfl
theorem Tx.f_text_of (T : Tx K mg) : ∃ fd, FunD K "text_of" "text_of" (defArgs s_text_of) (defBody s_text_of) (defScope s_text_of) [] [] (ga K "text_of") fd := T.fn 3 (d := d_text_of) rfl
theorem Tx.f_parts_at (T : Tx K mg) : ∃ fd, FunD K "parts_at" "parts_at" (defArgs s_parts_at) (defBody s_parts_at) (defScope s_parts_at) [] [] (ga K "parts_at") fd := T.fn 4 (d := d_parts_at) rfl
theorem Tx.f_text_at (T : Tx K mg) : ∃ fd, FunD K "text_at" "text_at" (defArgs s_text_at) (defBody s_text_at) (defScope s_text_at) [] [] (ga K "text_at") fd := T.fn 5 (d := d_text_at) rfl
theorem Tx.f_step_of (T : Tx K mg) : ∃ fd, FunD K "step_of" "step_of" (defArgs s_step_of) (defBody s_step_of) (defScope s_step_of) [] [] (ga K "step_of") fd := T.fn 6 (d := d_step_of) rfl
theorem Tx.f_need_columns (T : Tx K mg) : ∃ fd, FunD K "need_columns" "need_columns" (defArgs s_need_columns) (defBody s_need_columns) (defScope s_need_columns) [] [] (ga K "need_columns") fd := T.fn 7 (d := d_need_columns) rfl
theorem Tx.f_need_keys (T : Tx K mg) : ∃ fd, FunD K "need_keys" "need_keys" (defArgs s_need_keys) (defBody s_need_keys) (defScope s_need_keys) [] [] (ga K "need_keys") fd := T.fn 8 (d := d_need_keys) rfl
theorem Tx.f_is_cells (T : Tx K mg) : ∃ fd, FunD K "is_cells" "is_cells" (defArgs s_is_cells) (defBody s_is_cells) (defScope s_is_cells) [] [] (ga K "is_cells") fd := T.fn 9 (d := d_is_cells) rfl
theorem Tx.f_joined_rows (T : Tx K mg) : ∃ fd, FunD K "joined_rows" "joined_rows" (defArgs s_joined_rows) (defBody s_joined_rows) (defScope s_joined_rows) [] [] (ga K "joined_rows") fd := T.fn 10 (d := d_joined_rows) rfl
theorem Tx.f_text_above (T : Tx K mg) : ∃ fd, FunD K "text_above" "text_above" (defArgs s_text_above) (defBody s_text_above) (defScope s_text_above) [] [] (ga K "text_above") fd := T.fn 11 (d := d_text_above) rfl
theorem Tx.f_answers_of (T : Tx K mg) : ∃ fd, FunD K "answers_of" "answers_of" (defArgs s_answers_of) (defBody s_answers_of) (defScope s_answers_of) [] [] (ga K "answers_of") fd := T.fn 12 (d := d_answers_of) rfl
theorem Tx.f_kind_of (T : Tx K mg) : ∃ fd, FunD K "kind_of" "kind_of" (defArgs s_kind_of) (defBody s_kind_of) (defScope s_kind_of) [] [] (ga K "kind_of") fd := T.fn 13 (d := d_kind_of) rfl
theorem Tx.f_row_of (T : Tx K mg) : ∃ fd, FunD K "row_of" "row_of" (defArgs s_row_of) (defBody s_row_of) (defScope s_row_of) [] [] (ga K "row_of") fd := T.fn 14 (d := d_row_of) rfl
theorem Tx.f_changed_columns (T : Tx K mg) : ∃ fd, FunD K "changed_columns" "changed_columns" (defArgs s_changed_columns) (defBody s_changed_columns) (defScope s_changed_columns) [] [] (ga K "changed_columns") fd := T.fn 15 (d := d_changed_columns) rfl
theorem Tx.f_steps_at (T : Tx K mg) : ∃ fd, FunD K "steps_at" "steps_at" (defArgs s_steps_at) (defBody s_steps_at) (defScope s_steps_at) [] [] (ga K "steps_at") fd := T.fn 16 (d := d_steps_at) rfl
theorem Tx.f_steps_in_rings (T : Tx K mg) : ∃ fd, FunD K "steps_in_rings" "steps_in_rings" (defArgs s_steps_in_rings) (defBody s_steps_in_rings) (defScope s_steps_in_rings) [] [] (ga K "steps_in_rings") fd := T.fn 17 (d := d_steps_in_rings) rfl
theorem Tx.f_ring (T : Tx K mg) : ∃ fd, FunD K "ring" "ring" (defArgs s_ring) (defBody s_ring) (defScope s_ring) [] [] (ga K "ring") fd := T.fn 18 (d := d_ring) rfl
theorem Tx.f_need_no_ring (T : Tx K mg) : ∃ fd, FunD K "need_no_ring" "need_no_ring" (defArgs s_need_no_ring) (defBody s_need_no_ring) (defScope s_need_no_ring) [] [] (ga K "need_no_ring") fd := T.fn 19 (d := d_need_no_ring) rfl
theorem Tx.f_need_whole_rows (T : Tx K mg) : ∃ fd, FunD K "need_whole_rows" "need_whole_rows" (defArgs s_need_whole_rows) (defBody s_need_whole_rows) (defScope s_need_whole_rows) [] [] (ga K "need_whole_rows") fd := T.fn 20 (d := d_need_whole_rows) rfl
theorem Tx.f_need_orders (T : Tx K mg) : ∃ fd, FunD K "need_orders" "need_orders" (defArgs s_need_orders) (defBody s_need_orders) (defScope s_need_orders) [] [] (ga K "need_orders") fd := T.fn 21 (d := d_need_orders) rfl
theorem Tx.f_gain_of (T : Tx K mg) : ∃ fd, FunD K "gain_of" "gain_of" (defArgs s_gain_of) (defBody s_gain_of) (defScope s_gain_of) [] [] (ga K "gain_of") fd := T.fn 22 (d := d_gain_of) rfl
theorem Tx.f_barred (T : Tx K mg) : ∃ fd, FunD K "barred" "barred" (defArgs s_barred) (defBody s_barred) (defScope s_barred) [] [] (ga K "barred") fd := T.fn 23 (d := d_barred) rfl
theorem Tx.f_shows_barred (T : Tx K mg) : ∃ fd, FunD K "shows_barred" "shows_barred" (defArgs s_shows_barred) (defBody s_shows_barred) (defScope s_shows_barred) [] [] (ga K "shows_barred") fd := T.fn 24 (d := d_shows_barred) rfl
theorem Tx.f_law_pen (T : Tx K mg) : ∃ fd, FunD K "_law_pen" "_law_pen" (defArgs s_law_pen) (defBody s_law_pen) (defScope s_law_pen) [] [] (ga K "_law_pen") fd := T.fn 25 (d := d_law_pen) rfl
theorem Tx.f_law_draw (T : Tx K mg) : ∃ fd, FunD K "_law_draw" "_law_draw" (defArgs s_law_draw) (defBody s_law_draw) (defScope s_law_draw) [] [] (ga K "_law_draw") fd := T.fn 26 (d := d_law_draw) rfl
theorem Tx.f_law_pick (T : Tx K mg) : ∃ fd, FunD K "_law_pick" "_law_pick" (defArgs s_law_pick) (defBody s_law_pick) (defScope s_law_pick) [] [] (ga K "_law_pick") fd := T.fn 27 (d := d_law_pick) rfl
theorem Tx.f_law_below (T : Tx K mg) : ∃ fd, FunD K "_law_below" "_law_below" (defArgs s_law_below) (defBody s_law_below) (defScope s_law_below) [] [] (ga K "_law_below") fd := T.fn 28 (d := d_law_below) rfl
theorem Tx.f_law_up (T : Tx K mg) : ∃ fd, FunD K "_law_up" "_law_up" (defArgs s_law_up) (defBody s_law_up) (defScope s_law_up) [] [] (ga K "_law_up") fd := T.fn 29 (d := d_law_up) rfl
theorem Tx.f_law_names (T : Tx K mg) : ∃ fd, FunD K "_law_names" "_law_names" (defArgs s_law_names) (defBody s_law_names) (defScope s_law_names) [] [] (ga K "_law_names") fd := T.fn 30 (d := d_law_names) rfl
theorem Tx.f_law_places (T : Tx K mg) : ∃ fd, FunD K "_law_places" "_law_places" (defArgs s_law_places) (defBody s_law_places) (defScope s_law_places) [] [] (ga K "_law_places") fd := T.fn 31 (d := d_law_places) rfl
theorem Tx.f_law_site (T : Tx K mg) : ∃ fd, FunD K "_law_site" "_law_site" (defArgs s_law_site) (defBody s_law_site) (defScope s_law_site) [] [] (ga K "_law_site") fd := T.fn 32 (d := d_law_site) rfl
theorem Tx.f_law_table (T : Tx K mg) : ∃ fd, FunD K "_law_table" "_law_table" (defArgs s_law_table) (defBody s_law_table) (defScope s_law_table) [] [] (ga K "_law_table") fd := T.fn 33 (d := d_law_table) rfl
theorem Tx.f_law_exchange (T : Tx K mg) : ∃ fd, FunD K "_law_exchange" "_law_exchange" (defArgs s_law_exchange) (defBody s_law_exchange) (defScope s_law_exchange) [] [] (ga K "_law_exchange") fd := T.fn 34 (d := d_law_exchange) rfl
theorem Tx.f_law_kind (T : Tx K mg) : ∃ fd, FunD K "_law_kind" "_law_kind" (defArgs s_law_kind) (defBody s_law_kind) (defScope s_law_kind) [] [] (ga K "_law_kind") fd := T.fn 35 (d := d_law_kind) rfl
theorem Tx.f_law_above (T : Tx K mg) : ∃ fd, FunD K "_law_above" "_law_above" (defArgs s_law_above) (defBody s_law_above) (defScope s_law_above) [] [] (ga K "_law_above") fd := T.fn 36 (d := d_law_above) rfl
theorem Tx.f_law_spots (T : Tx K mg) : ∃ fd, FunD K "_law_spots" "_law_spots" (defArgs s_law_spots) (defBody s_law_spots) (defScope s_law_spots) [] [] (ga K "_law_spots") fd := T.fn 37 (d := d_law_spots) rfl
theorem Tx.f_law_steps (T : Tx K mg) : ∃ fd, FunD K "_law_steps" "_law_steps" (defArgs s_law_steps) (defBody s_law_steps) (defScope s_law_steps) [] [] (ga K "_law_steps") fd := T.fn 38 (d := d_law_steps) rfl
theorem Tx.f_law_number (T : Tx K mg) : ∃ fd, FunD K "_law_number" "_law_number" (defArgs s_law_number) (defBody s_law_number) (defScope s_law_number) [] [] (ga K "_law_number") fd := T.fn 39 (d := d_law_number) rfl
theorem Tx.f_law_sentences (T : Tx K mg) : ∃ fd, FunD K "_law_sentences" "_law_sentences" (defArgs s_law_sentences) (defBody s_law_sentences) (defScope s_law_sentences) [] [] (ga K "_law_sentences") fd := T.fn 40 (d := d_law_sentences) rfl
theorem Tx.f_law_pairs (T : Tx K mg) : ∃ fd, FunD K "_law_pairs" "_law_pairs" (defArgs s_law_pairs) (defBody s_law_pairs) (defScope s_law_pairs) [] [] (ga K "_law_pairs") fd := T.fn 41 (d := d_law_pairs) rfl
theorem Tx.f_law_rows (T : Tx K mg) : ∃ fd, FunD K "_law_rows" "_law_rows" (defArgs s_law_rows) (defBody s_law_rows) (defScope s_law_rows) [] [] (ga K "_law_rows") fd := T.fn 42 (d := d_law_rows) rfl
theorem Tx.f_law_subsets (T : Tx K mg) : ∃ fd, FunD K "_law_subsets" "_law_subsets" (defArgs s_law_subsets) (defBody s_law_subsets) (defScope s_law_subsets) [] [] (ga K "_law_subsets") fd := T.fn 43 (d := d_law_subsets) rfl
theorem Tx.f_law_is_strict (T : Tx K mg) : ∃ fd, FunD K "_law_is_strict" "_law_is_strict" (defArgs s_law_is_strict) (defBody s_law_is_strict) (defScope s_law_is_strict) [] [] (ga K "_law_is_strict") fd := T.fn 44 (d := d_law_is_strict) rfl
theorem Tx.f_law_reached (T : Tx K mg) : ∃ fd, FunD K "_law_reached" "_law_reached" (defArgs s_law_reached) (defBody s_law_reached) (defScope s_law_reached) [] [] (ga K "_law_reached") fd := T.fn 45 (d := d_law_reached) rfl
theorem Tx.f_law_right (T : Tx K mg) : ∃ fd, FunD K "_law_right" "_law_right" (defArgs s_law_right) (defBody s_law_right) (defScope s_law_right) [] [] (ga K "_law_right") fd := T.fn 46 (d := d_law_right) rfl
theorem Tx.f_law (T : Tx K mg) : ∃ fd, FunD K "law" "law" (defArgs s_law) (defBody s_law) (defScope s_law) [] [] (ga K "law") fd := T.fn 47 (d := d_law) rfl
theorem Tx.f_Put_init (T : Tx K mg) : ∃ fd, FunD K "__init__" "Step.__init__" (defArgs sStep_init) (defBody sStep_init) (defScope sStep_init) [] [] (ma K (ga K "Put") "__init__") fd := T.fn 48 (d := dPut_init) rfl
theorem Tx.f_Take_init (T : Tx K mg) : ∃ fd, FunD K "__init__" "Step.__init__" (defArgs sStep_init) (defBody sStep_init) (defScope sStep_init) [] [] (ma K (ga K "Take") "__init__") fd := T.fn 49 (d := dTake_init) rfl
theorem Tx.f_Edit_init (T : Tx K mg) : ∃ fd, FunD K "__init__" "Step.__init__" (defArgs sStep_init) (defBody sStep_init) (defScope sStep_init) [] [] (ma K (ga K "Edit") "__init__") fd := T.fn 50 (d := dEdit_init) rfl
theorem Tx.f_Table_init (T : Tx K mg) : ∃ fd, FunD K "__init__" "Table.__init__" (defArgs sTable_init) (defBody sTable_init) (defScope sTable_init) [.non] [] (ma K (ga K "Table") "__init__") fd := T.fn 51 (d := dTable_init) rfl
theorem Tx.f_Table_getitem (T : Tx K mg) : ∃ fd, FunD K "__getitem__" "Table.__getitem__" (defArgs sTable_getitem) (defBody sTable_getitem) (defScope sTable_getitem) [] [] (ma K (ga K "Table") "__getitem__") fd := T.fn 52 (d := dTable_getitem) rfl
theorem Tx.f_Table_contains (T : Tx K mg) : ∃ fd, FunD K "__contains__" "Table.__contains__" (defArgs sTable_contains) (defBody sTable_contains) (defScope sTable_contains) [] [] (ma K (ga K "Table") "__contains__") fd := T.fn 53 (d := dTable_contains) rfl
theorem Tx.f_Table_len (T : Tx K mg) : ∃ fd, FunD K "__len__" "Table.__len__" (defArgs sTable_len) (defBody sTable_len) (defScope sTable_len) [] [] (ma K (ga K "Table") "__len__") fd := T.fn 54 (d := dTable_len) rfl
theorem Tx.f_Table_cells (T : Tx K mg) : ∃ fd, FunD K "cells" "Table.cells" (defArgs sTable_cells) (defBody sTable_cells) (defScope sTable_cells) [] [] (ma K (ga K "Table") "cells") fd := T.fn 55 (d := dTable_cells) rfl
theorem Tx.f_Table_copy (T : Tx K mg) : ∃ fd, FunD K "copy" "Table.copy" (defArgs sTable_copy) (defBody sTable_copy) (defScope sTable_copy) [] [] (ma K (ga K "Table") "copy") fd := T.fn 56 (d := dTable_copy) rfl
theorem Tx.f_Exchange_init (T : Tx K mg) : ∃ fd, FunD K "__init__" "Exchange.__init__" (defArgs sExchange_init) (defBody sExchange_init) (defScope sExchange_init) [] [] (ma K (ga K "Exchange") "__init__") fd := T.fn 57 (d := dExchange_init) rfl
theorem Tx.f_Exchange_first_copy (T : Tx K mg) : ∃ fd, FunD K "first_copy" "Exchange.first_copy" (defArgs sExchange_first_copy) (defBody sExchange_first_copy) (defScope sExchange_first_copy) [] [] (ma K (ga K "Exchange") "first_copy") fd := T.fn 58 (d := dExchange_first_copy) rfl
theorem Tx.f_Exchange_rows_at (T : Tx K mg) : ∃ fd, FunD K "rows_at" "Exchange.rows_at" (defArgs sExchange_rows_at) (defBody sExchange_rows_at) (defScope sExchange_rows_at) [] [] (ma K (ga K "Exchange") "rows_at") fd := T.fn 59 (d := dExchange_rows_at) rfl
theorem Tx.f_Exchange_places_divided (T : Tx K mg) : ∃ fd, FunD K "places_divided" "Exchange.places_divided" (defArgs sExchange_places_divided) (defBody sExchange_places_divided) (defScope sExchange_places_divided) [] [] (ma K (ga K "Exchange") "places_divided") fd := T.fn 60 (d := dExchange_places_divided) rfl
theorem Tx.f_Exchange_steps_told (T : Tx K mg) : ∃ fd, FunD K "steps_told" "Exchange.steps_told" (defArgs sExchange_steps_told) (defBody sExchange_steps_told) (defScope sExchange_steps_told) [] [] (ma K (ga K "Exchange") "steps_told") fd := T.fn 61 (d := dExchange_steps_told) rfl
theorem Tx.f_Exchange_kind_at (T : Tx K mg) : ∃ fd, FunD K "kind_at" "Exchange.kind_at" (defArgs sExchange_kind_at) (defBody sExchange_kind_at) (defScope sExchange_kind_at) [] [] (ma K (ga K "Exchange") "kind_at") fd := T.fn 62 (d := dExchange_kind_at) rfl
theorem Tx.f_Exchange_place_above (T : Tx K mg) : ∃ fd, FunD K "place_above" "Exchange.place_above" (defArgs sExchange_place_above) (defBody sExchange_place_above) (defScope sExchange_place_above) [] [] (ma K (ga K "Exchange") "place_above") fd := T.fn 63 (d := dExchange_place_above) rfl
theorem Tx.f_Exchange_sentence_at (T : Tx K mg) : ∃ fd, FunD K "sentence_at" "Exchange.sentence_at" (defArgs sExchange_sentence_at) (defBody sExchange_sentence_at) (defScope sExchange_sentence_at) [] [] (ma K (ga K "Exchange") "sentence_at") fd := T.fn 64 (d := dExchange_sentence_at) rfl
theorem Tx.f_Exchange_sentences_told (T : Tx K mg) : ∃ fd, FunD K "sentences_told" "Exchange.sentences_told" (defArgs sExchange_sentences_told) (defBody sExchange_sentences_told) (defScope sExchange_sentences_told) [] [] (ma K (ga K "Exchange") "sentences_told") fd := T.fn 65 (d := dExchange_sentences_told) rfl
theorem Tx.f_Exchange_len (T : Tx K mg) : ∃ fd, FunD K "__len__" "Exchange.__len__" (defArgs sExchange_len) (defBody sExchange_len) (defScope sExchange_len) [] [] (ma K (ga K "Exchange") "__len__") fd := T.fn 66 (d := dExchange_len) rfl
theorem Tx.f_Ground_init (T : Tx K mg) : ∃ fd, FunD K "__init__" "Ground.__init__" (defArgs sGround_init) (defBody sGround_init) (defScope sGround_init) [] [] (ma K (ga K "Ground") "__init__") fd := T.fn 67 (d := dGround_init) rfl
theorem Tx.f_Ground_numbers_of (T : Tx K mg) : ∃ fd, FunD K "numbers_of" "Ground.numbers_of" (defArgs sGround_numbers_of) (defBody sGround_numbers_of) (defScope sGround_numbers_of) [] [] (ma K (ga K "Ground") "numbers_of") fd := T.fn 68 (d := dGround_numbers_of) rfl
theorem Tx.f_Ground_rows_at (T : Tx K mg) : ∃ fd, FunD K "rows_at" "Ground.rows_at" (defArgs sGround_rows_at) (defBody sGround_rows_at) (defScope sGround_rows_at) [] [] (ma K (ga K "Ground") "rows_at") fd := T.fn 69 (d := dGround_rows_at) rfl
theorem Tx.f_Ground_next_steps (T : Tx K mg) : ∃ fd, FunD K "next_steps" "Ground.next_steps" (defArgs sGround_next_steps) (defBody sGround_next_steps) (defScope sGround_next_steps) [] [] (ma K (ga K "Ground") "next_steps") fd := T.fn 70 (d := dGround_next_steps) rfl
theorem Tx.f_Ground_layers (T : Tx K mg) : ∃ fd, FunD K "layers" "Ground.layers" (defArgs sGround_layers) (defBody sGround_layers) (defScope sGround_layers) [] [] (ma K (ga K "Ground") "layers") fd := T.fn 71 (d := dGround_layers) rfl
theorem Tx.f_Ground_needs (T : Tx K mg) : ∃ fd, FunD K "needs" "Ground.needs" (defArgs sGround_needs) (defBody sGround_needs) (defScope sGround_needs) [] [] (ma K (ga K "Ground") "needs") fd := T.fn 72 (d := dGround_needs) rfl
theorem Tx.f_Ground_steps_within (T : Tx K mg) : ∃ fd, FunD K "steps_within" "Ground.steps_within" (defArgs sGround_steps_within) (defBody sGround_steps_within) (defScope sGround_steps_within) [] [] (ma K (ga K "Ground") "steps_within") fd := T.fn 73 (d := dGround_steps_within) rfl
theorem Tx.f_Ground_reached (T : Tx K mg) : ∃ fd, FunD K "reached" "Ground.reached" (defArgs sGround_reached) (defBody sGround_reached) (defScope sGround_reached) [] [] (ma K (ga K "Ground") "reached") fd := T.fn 74 (d := dGround_reached) rfl
theorem Tx.f_Ground_standing_of (T : Tx K mg) : ∃ fd, FunD K "standing_of" "Ground.standing_of" (defArgs sGround_standing_of) (defBody sGround_standing_of) (defScope sGround_standing_of) [] [] (ma K (ga K "Ground") "standing_of") fd := T.fn 75 (d := dGround_standing_of) rfl
theorem Tx.f_places (T : Tx K mg) : ∃ fd, FunD K "places" "Table.places" (defArgs sTable_places) (defBody sTable_places) (defScope sTable_places) [] [] (propG K "Table" "places") fd := T.c.get (d := gPlaces) (List.mem_singleton.mpr rfl)
end
end NS
set_option Elab.async false
set_option linter.all false
set_option maxRecDepth 100000
set_option maxHeartbeats 4000000
/-! How the program's defs are said: by their bodies, at a level. -/
namespace NS
open PySem PySem.Spec PyProof.Rows L2 He
section
variable {P : Program} {w : World} {K : PySem.W.Frag} {mg : Str → Option Value} {base : Heap}
/-- the body of a def keeps its promise -/
abbrev BodyOk (P : Program) (w : World) (K : PySem.W.Frag) (mg : Str → Option Value) (base : Heap) (N : List Str) (qual : Str) (st : Stmt) (f : Addr) (k : Nat) (sp : Sp) : Prop :=
  ∀ (cdv : Value) (A : Around) (outer : List Env) (s : Shared) (H : Hp) (vs : List V) (Q : VK) (E : XK), Room k (A.deeper (envOfC qual (defScope st) s.heap.objs.size f cdv)) → sp vs H Q E →
    ∃ t, PSs (cxOf CX0 P w K mg base N qual (defScope st) f cdv A outer s H E).nox (defBody st) t ∧ t { nx := fun _ H' => Q .non H', rt := Q } (start N vs) H
theorem fnd_ok {x qual : Str} {st : Stmt} {f : Addr} {fd : FuncData} {dvs : List V} {kws : List (Str × V)} {N ps : List Str} {k : Nat} {sp : Sp} (F : FunD K x qual (defArgs st) (defBody st) (defScope st) dvs kws f fd) (S : FnScope N ps (defScope st))
    (len : ∀ vs H Q E, sp vs H Q E → vs.length = ps.length) (hb : BodyOk P w K mg base N qual st f k sp) : FnOk P w K mg base CX0 (k + 1) f fd ps sp :=
  F.ok S len fun cdv A outer s H vs Q E hr h => by
    obtain ⟨t, a, b⟩ := hb cdv A outer s H vs Q E hr h
    exact ⟨t, a.nox, b⟩
theorem cal_of {x : Str} {st : Stmt} {N ps : List Str} {k : Nat} {sp : Sp} (hF : ∃ fd, FunD K x x (defArgs st) (defBody st) (defScope st) [] [] (ga K x) fd) (hm : mg x = some (.ref (ga K x))) (S : FnScope N ps (defScope st))
    (b : ∀ (kV doc pm : Value) (an : Option Addr) (cdv ct : Value) (us : List Value), us.length = ps.length → bindArgs (PySem.W.fnOf x x (defArgs st) (defBody st) (defScope st) .none kV doc pm an cdv ct) ⟨us, []⟩ = pure (ps.zip us))
    (len : ∀ vs H Q E, sp vs H Q E → vs.length = ps.length) (hb : BodyOk P w K mg base N x st (ga K x) k sp) : C8.Cal P w K mg base (k + 1) x sp [] := by
  obtain ⟨fd, F⟩ := hF
  exact ⟨_, fd, ps, [], fnd_ok F S len hb, hm, F.kp, F.bindsN b, .nil⟩
theorem met_of {c m qual : Str} {st : Stmt} {N ps : List Str} {k : Nat} {sp : Sp} (cl : Cls K (ga K c)) (me : Meth K (ga K c) m (ma K (ga K c) m)) (hF : ∃ fd, FunD K m qual (defArgs st) (defBody st) (defScope st) [] [] (ma K (ga K c) m) fd) (S : FnScope N ps (defScope st))
    (b : ∀ (kV doc pm : Value) (an : Option Addr) (cdv ct : Value) (us : List Value), us.length = ps.length → bindArgs (PySem.W.fnOf m qual (defArgs st) (defBody st) (defScope st) .none kV doc pm an cdv ct) ⟨us, []⟩ = pure (ps.zip us))
    (len : ∀ vs H Q E, sp vs H Q E → vs.length = ps.length) (hb : BodyOk P w K mg base N qual st (ma K (ga K c) m) k sp) : C8.Met P w K mg base (k + 1) (ga K c) m sp [] := by
  obtain ⟨fd, F⟩ := hF
  exact ⟨_, fd, ps, [], cl, me, fnd_ok F S len hb, F.bindsN b, .nil⟩
theorem mak_of {c qual : Str} {st : Stmt} {N ps : List Str} {k : Nat} {sp : Sp} (mk : Mk K (ga K c) (ma K (ga K c) "__init__")) (hm : mg c = some (.ref (ga K c))) (hF : ∃ fd, FunD K "__init__" qual (defArgs st) (defBody st) (defScope st) [] [] (ma K (ga K c) "__init__") fd) (S : FnScope N ps (defScope st))
    (b : ∀ (kV doc pm : Value) (an : Option Addr) (cdv ct : Value) (us : List Value), us.length = ps.length → bindArgs (PySem.W.fnOf "__init__" qual (defArgs st) (defBody st) (defScope st) .none kV doc pm an cdv ct) ⟨us, []⟩ = pure (ps.zip us))
    (len : ∀ vs H Q E, sp vs H Q E → vs.length = ps.length) (hb : BodyOk P w K mg base N qual st (ma K (ga K c) "__init__") k sp) : C8.Mak P w K mg base (k + 1) c (ga K c) sp [] := by
  obtain ⟨fd, F⟩ := hF
  exact ⟨_, fd, ps, [], mk, fnd_ok F S len hb, hm, F.bindsN b, .nil⟩
end
section
variable {X : Cx}
/-- an expression that is never reached -/
theorem pe_never {e : Expr} : PE X e (fun _ _ _ => False) := ⟨fun _ _ _ _ _ _ h => h.elim⟩
end
end NS
namespace L2
open PySem
/-! ### heaps that grow -/
theorem Same.new {H H' : Hp} {p : Addr} {o : HO} (e : Same H H') (h : H' p = none) : Same H (upd H' p o) := fun b u q => by
  rw [upd_ne (ne_of_none (e b u q) h)]
  exact e b u q
/-- what is new may change -/
theorem Same.mut {H H' : Hp} {p : Addr} {o : HO} (e : Same H H') (h : H p = none) : Same H (upd H' p o) := fun b u q => by
  rw [upd_ne (ne_of_none q h)]
  exact e b u q
theorem Same.tup {K : PySem.W.Frag} {H H' : Hp} {a : Addr} {xs : List V} (e : Same H H') (h : SqT K H a xs) : SqT K H' a xs := by
  rcases h with (h | ⟨o, h⟩) | h
  · exact .inl (.inl (e _ _ h))
  · exact .inl (.inr ⟨o, e _ _ h⟩)
  · exact .inr h
end L2
namespace NS
open PySem PySem.Spec PyProof.Rows L2 He
theorem lt_size {n : Nat} (h : n ≤ 1000) : n < sizeLine := Nat.lt_of_le_of_lt h (by decide)
theorem le_size {n : Nat} (h : n ≤ 1000) : n ≤ sizeLine := Nat.le_of_lt (lt_size h)
/-! ### comprehensions: the list so far at D, what is known of it -/
def PvL (H1 : Hp) (D : Addr) (R : Nat → List V → Hp → Prop) (i : Nat) (H : Hp) : Prop := ∃ acc, H D = some (.lst acc) ∧ Same H1 H ∧ acc.length ≤ i ∧ R i acc H
/-- all but D is as it was -/
def But (D : Addr) (H H' : Hp) : Prop := ∀ b o, b ≠ D → H b = some o → H' b = some o
theorem Same.but {D : Addr} {H H' : Hp} (e : Same H H') : But D H H' := fun b o _ h => e b o h
theorem lc_put {H1 H4 : Hp} {D : Addr} {R : Nat → List V → Hp → Prop} {i : Nat} {acc : List V} {y : V} (hD : H1 D = none) (h : H4 D = some (.lst acc)) (e : Same H1 H4) (hl : acc.length ≤ i) (hi : i < 1000) (hm : R (i + 1) (acc ++ [y]) H4 → R (i + 1) (acc ++ [y]) (upd H4 D (.lst (acc ++ [y]))))
    (r : R (i + 1) (acc ++ [y]) H4) : ∃ acc, H4 D = some (.lst acc) ∧ acc.length < sizeLine ∧ PvL H1 D R (i + 1) (upd H4 D (.lst (acc ++ [y]))) :=
  ⟨acc, h, lt_size (by omega), acc ++ [y], upd_same, e.mut hD, by rw [List.length_append, List.length_singleton]; omega, hm r⟩
theorem lc_go {J : It} {n : Nat} {G : Hp → Prop} {Y : Nat → Hp → V → Hp → Prop} (w : Walk J n G Y) {g : TG} {tt : TT} {te : TE} {vs : List Nat} {σ : L2.St} {H1 : Hp} {D : Addr} {Qd : Hp → Prop} (hD : H1 D = none) (R : Nat → List V → Hp → Prop)
    (hG : ∀ H, Same H1 H → G H) (h0 : R 0 [] (upd H1 D (.lst [])))
    (hs : ∀ i x H H' acc, i < n → Same H1 H → H D = some (.lst acc) → acc.length ≤ i → R i acc H → Y i H x H' → g x (wipe σ vs) H' fun σ2 H2 => wipe σ2 vs = wipe σ vs ∧ tt σ2 H2 fun b H3 =>
      if b = true then te σ2 H3 fun y H4 => ∃ acc, H4 D = some (.lst acc) ∧ acc.length < sizeLine ∧ PvL H1 D R (i + 1) (upd H4 D (.lst (acc ++ [y]))) else PvL H1 D R (i + 1) H3)
    (hd : ∀ H acc, Same H1 H → H D = some (.lst acc) → R n acc H → Qd H) :
    ∃ W : Nat → Nat → Hp → Prop, (∃ m, W 0 m (upd H1 D (.lst []))) ∧ ∀ i m H, W i m H →
      (J.stop i H ∧ Qd H) ∨ (J.go i H ∧ ∃ Nx : Hp → Prop, (∀ H', Nx H' → ∃ m', m' < m ∧ W (i + 1) m' H') ∧ ∀ x H', J.yld i H x H' → g x (wipe σ vs) H' fun σ2 H2 => wipe σ2 vs = wipe σ vs ∧ tt σ2 H2 fun b H3 =>
        if b = true then te σ2 H3 fun y H4 => ∃ acc, H4 D = some (.lst acc) ∧ acc.length < sizeLine ∧ Nx (upd H4 D (.lst (acc ++ [y]))) else Nx H3) := by
  refine lc_it w (PvL H1 D R) ⟨[], upd_same, (Same.refl H1).new hD, Nat.zero_le _, h0⟩ (fun i H _ ⟨_, _, e, _⟩ => hG H e) (fun i x H H' hi ⟨acc, h, e, hl, r⟩ y => hs i x H H' acc hi e h hl r y) ?_
  rintro H ⟨acc, h, e, hl, r⟩
  exact hd H acc e h r
end NS
set_option Elab.async false
set_option linter.all false
set_option maxRecDepth 100000
set_option maxHeartbeats 4000000
/-! Names and places as texts; the small defs about them. -/
namespace NS
open PySem PySem.Spec PyProof.Rows L2 He
/-- the signs of names -/
def signs : List Nat := [97, 98, 99, 100, 101, 102, 103, 104, 105, 106, 107, 108, 109, 110, 111, 112, 113, 114, 115, 116, 117, 118, 119, 120, 121, 122, 48, 49, 50, 51, 52, 53, 54, 55, 56, 57]
theorem signs_eq : (("abcdefghijklmnopqrstuvwxyz0123456789" : Str)).cps.toList = signs := by decide +kernel
structure OkN (n : List Nat) : Prop where
  pos : 1 ≤ n.length
  le : n.length ≤ 8
  sg : ∀ c ∈ n, c ∈ signs
theorem OkN.no {n : List Nat} (h : OkN n) : 47 ∉ n := fun q => absurd (h.sg 47 q) (by decide)
/-- the codes, the text of the place with some names -/
def pc (ns : List (List Nat)) : List Nat := 47 :: TL.joinL [47] ns
def txt (ns : List (List Nat)) : Str := SX.S (pc ns)
structure OkP (ns : List (List Nat)) : Prop where
  len : ns.length ≤ 8
  ok : ∀ n ∈ ns, OkN n
theorem slash_eq : ("/" : Str) = SX.S [47] := by decide +kernel
theorem empty_eq : ("" : Str) = SX.S [] := by decide +kernel
def sv (ns : List (List Nat)) : List V := (ns.map SX.S).map V.str
local macro_rules | `(tactic| walk_at "nf") => `(tactic| dsimp only [L2.tNext, L2.tSeq, L2.tDrop, L2.tRet, L2.tRetN, L2.tIfS, L2.tAsg, L2.gName, L2.gCons, L2.gNil, L2.gTup, L2.tOp, L2.tUn, L2.tTest, L2.tChain, L2.tB, L2.tAnd, L2.tOr, L2.tNot, L2.tAndV, L2.tOrV, L2.tNotV, L2.tIf, L2.tCB, L2.tNil, L2.tCons, L2.tTup, L2.tLst, L2.tFld, L2.sFld, L2.tCall, L2.tMeth, L2.tMake, L2.tBM, L2.tBM0, L2.tM1, L2.tM0, L2.tSl, L2.tPart, L2.tNoPart, L2.tPar, L2.tVar, L2.tC, L2.cxOf, L2.tYes, C8.tCut])
/-- isinstance, one class -/
theorem q_isi {K : PySem.W.Frag} {H : Hp} {Q : VK} {x : V} {t : Value} {b : Bool} (n : String) (ty : TyX K H x t) (e : PySem.W.kitOne K t (.type n) = some b) (q : Q (.bl b) H) : rIsi K [x, .ty n] H Q := ⟨x, .ty n, t, .type n, b, rfl, .ty n, ty, e, q⟩
theorem q_isi_str {K : PySem.W.Frag} {H : Hp} {Q : VK} {x : Str} (q : Q (.bl true) H) : rIsi K [.str x, .ty "str"] H Q := q_isi "str" (.base (.str x)) (kit_ty (by decide +kernel)) q
theorem join_step (n : List Nat) (r : List (List Nat)) (h : r ≠ []) : TL.joinL [47] (n :: r) = n ++ ([47] ++ TL.joinL [47] r) := by
  cases r with
  | nil => exact absurd rfl h
  | cons q r => rfl
theorem join_len : ∀ {ns : List (List Nat)}, (∀ n ∈ ns, OkN n) → (TL.joinL [47] ns).length ≤ 9 * ns.length
  | [], _ => Nat.le_refl _
  | [n], h => by
    have := (h n (by simp)).le
    show n.length ≤ _
    simp only [List.length_singleton]
    omega
  | n :: q :: r, h => by
    have h1 := (h n (by simp)).le
    have h2 := join_len (ns := q :: r) (fun m hm => h m (List.mem_cons_of_mem _ hm))
    rw [join_step n (q :: r) (by simp), List.length_append, List.length_append]
    simp only [List.length_cons, List.length_nil] at h2 ⊢
    omega
theorem sum_len : ∀ {ns : List (List Nat)}, (∀ n ∈ ns, OkN n) → ((ns.map SX.S).map (·.length)).sum ≤ 8 * ns.length
  | [], _ => Nat.le_refl _
  | n :: r, h => by
    have h1 := (h n (by simp)).le
    have h2 := sum_len (ns := r) (fun m hm => h m (List.mem_cons_of_mem _ hm))
    have e : (SX.S n).length = n.length := SX.S_len n
    simp only [List.map_cons, List.sum_cons, List.length_cons] at h2 ⊢
    rw [e]
    omega
theorem OkP.plen {ns : List (List Nat)} (h : OkP ns) : (pc ns).length ≤ 73 := by
  have h1 := join_len h.ok
  have h2 := h.len
  unfold pc
  rw [List.length_cons]
  omega
theorem txt_len {ns : List (List Nat)} (h : OkP ns) : (txt ns).length ≤ 73 := by
  have e : (txt ns).length = (pc ns).length := SX.S_len _
  rw [e]
  exact h.plen
/-- the first name of a path, and the rest -/
theorem part_join {ns : List (List Nat)} (hp : ∀ n ∈ ns, OkN n) {j : Nat} (hj : j < ns.length) : ∃ (n : List Nat) (left : Str), ns[j]? = some n ∧ Txt.partition (SX.S (TL.joinL [47] (ns.drop j))) "/" = (SX.S n, (if j + 1 < ns.length then ("/" : Str) else ("" : Str)), left) ∧
    (j + 1 < ns.length → left = SX.S (TL.joinL [47] (ns.drop (j + 1)))) := by
  have ed : ns.drop j = ns[j] :: ns.drop (j + 1) := (List.drop_eq_getElem_cons hj)
  have hn := (hp ns[j] (List.getElem_mem hj)).no
  rw [slash_eq, ed]
  by_cases h : j + 1 < ns.length
  · have hne : ns.drop (j + 1) ≠ [] := fun q => by
      have := List.drop_eq_nil_iff.mp q
      omega
    refine ⟨ns[j], SX.S (TL.joinL [47] (ns.drop (j + 1))), List.getElem?_eq_getElem hj, ?_, fun _ => rfl⟩
    rw [join_step _ _ hne, if_pos h]
    exact SX.partition_some (by simp) (SX.par_head (c := 47) (sep := []) _ hn)
  · have hne : ns.drop (j + 1) = [] := List.drop_eq_nil_iff.mpr (by omega)
    refine ⟨ns[j], SX.S [], List.getElem?_eq_getElem hj, ?_, fun q => absurd q h⟩
    rw [hne, if_neg h, empty_eq]
    exact SX.partition_none (by simp) (SX.par_head_none (c := 47) (sep := []) hn)
theorem sv_snoc (ns : List (List Nat)) (n : List Nat) : sv (ns ++ [n]) = sv ns ++ [V.str (SX.S n)] := by
  unfold sv
  rw [List.map_append, List.map_append]
  rfl
theorem take_snoc {α : Type} {l : List α} {j : Nat} {x : α} (h : l[j]? = some x) : l.take (j + 1) = l.take j ++ [x] := by
  rw [List.take_add_one, h]
  rfl
theorem sv_len (ns : List (List Nat)) : (sv ns).length = ns.length := by simp [sv]
theorem ite_par {c : Prop} [Decidable c] {x a b : V} {F : V → V → Prop} (h : F x (if c then a else b)) : if c then ∃ v w, [x, a] = [v, w] ∧ F v w else ∃ v w, [x, b] = [v, w] ∧ F v w := by
  by_cases e : c
  · rw [if_pos e] at h
    rw [if_pos e]
    exact ⟨_, _, rfl, h⟩
  · rw [if_neg e] at h
    rw [if_neg e]
    exact ⟨_, _, rfl, h⟩
theorem txt_ne {ns : List (List Nat)} (hp : ∀ n ∈ ns, OkN n) : txt ns = ("/" : Str) ↔ ns = [] := by
  rw [slash_eq]
  constructor
  · intro e
    have e2 : 47 :: TL.joinL [47] ns = [47] := SX.S_inj e
    cases ns with
    | nil => rfl
    | cons n r =>
      exfalso
      have hn := (hp n (by simp)).pos
      have e3 : TL.joinL [47] (n :: r) = [] := (List.cons.inj e2).2
      cases r with
      | nil =>
        have e4 : n = [] := e3
        rw [e4] at hn
        simp at hn
      | cons q r =>
        have e4 : n ++ ([47] ++ TL.joinL [47] (q :: r)) = [] := e3
        simp at e4
  · rintro rfl
    rfl
section
variable {P : Program} {w : World} {K : PySem.W.Frag} {mg : Str → Option Value} {base : Heap}
/-! ### is_name -/
def sp_is_name : Sp := fun vs H Q _ => ∃ n, vs = [.str (SX.S n)] ∧ OkN n ∧ ∀ H', Same H H' → Q (.bl true) H'
theorem sc_is_name : FnScope ["value", "sign"] ["value"] (defScope s_is_name) := ⟨rfl, rfl, rfl, by decide +kernel, rfl, by decide +kernel, by decide +kernel⟩
theorem ok_is_name (T : Tx K mg) : C8.Cal P w K mg base 1 "is_name" sp_is_name [] := by
  refine cal_of T.f_is_name T.g_is_name sc_is_name (fun _ _ _ _ _ _ us hl => match us, hl with | [_], _ => rfl) (fun vs H Q E h => ?_) (fun cdv A outer s H vs Q E hr h => ?_)
  · obtain ⟨n, rfl, _⟩ := h
    rfl
  · obtain ⟨n, rfl, hn, k⟩ := h
    have nd := sc_is_name.nd
    refine ⟨_, (pss_cons (ps_if (PW.pt (pw_or (pt_not (pt_val (pe_callB call_isi (by rfl) T.z_isinstance (by decide +kernel) (pa_cons (pv 0) (pa_cons (pe_bltn (v := .ty "str") (u := .type "str") rfl T.z_str (by decide +kernel) rfl) pa_nil))))) (pw_or1 (pt_not (pt_chain op_le op_le pe_int (pe_callB call_len_str (by rfl) T.z_len (by decide +kernel) (pa_cons (pv 0) pa_nil)) (C8.pe_gc rfl T.v_LONGEST_NAME)))))) (pss_one (ps_ret pe_bl)) pss_nil)
      (pss_one (ps_ret (pe_callB (cr_all rfl) (by rfl) T.z_all (by decide +kernel) (pa_cons (pe_lc (own := [("sign", 1)]) rfl nd (pi_str (pv 0)) (blkOk_by (by kernel_rfl)) (fun _ _ _ _ _ => (pg_name (i := 1) nd rfl (Or.inl rfl))) (fun _ _ _ _ _ => pts_nil) (fun _ _ _ _ _ => (pe_cmpR op_in_sign (pv 1) (C8.pe_gc rfl T.v_SIGNS) (by rfl)))) pa_nil))))), ?_⟩
    have hl : (SX.S n).length = n.length := SX.S_len n
    walk_at "nf"
    refine ⟨_, rfl, q_isi_str ?_⟩
    refine ⟨_, rfl, iteF ?_⟩
    refine ⟨_, rfl, _, rfl, le_size (by rw [hl]; have := hn.le; omega), ?_⟩
    refine ⟨_, _, rfl, rfl, _, rfl, ?_⟩
    have e1 : decide ((1 : Int) ≤ ((SX.S n).length : Int)) = true := decide_eq_true (by rw [hl]; have := hn.pos; omega)
    have e2 : decide (((SX.S n).length : Int) ≤ 8) = true := decide_eq_true (by rw [hl]; have := hn.le; omega)
    rw [e1]
    refine iteT ⟨_, _, rfl, rfl, _, rfl, ?_⟩
    rw [e2]
    refine iteF ⟨_, rfl, _, rfl, fun D hD => lc_go walk_str hD (fun i acc _ => acc = List.replicate i (V.bl true)) (fun _ _ => trivial) rfl ?_ ?_⟩
    · rintro i x H1 H2 acc hi e hDD hl2 r ⟨rfl, c, hc, rfl⟩
      have hcn : c ∈ n := by
        have q : n[i]? = some c := by simpa [SX.S] using hc
        exact List.mem_of_getElem? q
      have hs : decide (c ∈ ("abcdefghijklmnopqrstuvwxyz0123456789" : Str).cps.toList) = true := decide_eq_true (by rw [signs_eq]; exact hn.sg c hcn)
      walk_at "nf"
      refine ⟨rfl, iteT ⟨_, rfl, _, _, rfl, rfl, lc_put hD hDD e hl2 ?_ id ?_⟩⟩
      · have : (SX.S n).cps.size = n.length := hl
        have := hn.le
        omega
      · rw [r, hs, List.replicate_succ']
    · intro H1 acc e hDD r
      refine ⟨D, List.replicate (SX.S n).cps.size true, rfl, SqL.of (by rw [hDD, r]; simp), ?_⟩
      have ea : (List.replicate (SX.S n).cps.size true).all id = true := by simp
      show Q (.bl ((List.replicate (SX.S n).cps.size true).all id)) H1
      rw [ea]
      exact k H1 e
/-! ### text_of, names_in -/
def sp_text_of (K : PySem.W.Frag) : Sp := fun vs H Q _ => ∃ a ns, vs = [.ref a] ∧ SqT K H a (sv ns) ∧ OkP ns ∧ ∀ H', Same H H' → Q (.str (txt ns)) H'
theorem sc_text_of : FnScope ["names"] ["names"] (defScope s_text_of) := ⟨rfl, rfl, rfl, by decide +kernel, rfl, by decide +kernel, by decide +kernel⟩
theorem ok_text_of (T : Tx K mg) : C8.Cal P w K mg base 1 "text_of" (sp_text_of K) [] := by
  refine cal_of T.f_text_of T.g_text_of sc_text_of (fun _ _ _ _ _ _ us hl => match us, hl with | [_], _ => rfl) (fun vs H Q E h => ?_) (fun cdv A outer s H vs Q E hr h => ?_)
  · obtain ⟨a, ns, rfl, _⟩ := h
    rfl
  · obtain ⟨a, ns, rfl, ha, hp, k⟩ := h
    have nd := sc_text_of.nd
    refine ⟨_, (pss_one (ps_ret (pe_op op_add_str pe_str (pe_join pe_str (pv 0))))), ?_⟩
    walk_at "nf"
    have hs := sum_len hp.ok
    have hl := hp.len
    have e1 : ("/" : Str).length = 1 := by decide +kernel
    refine ⟨⟨_, rfl⟩, _, rfl, _, _, ns.map SX.S, rfl, rfl, .inr ha, ?_, _, _, rfl, rfl, ?_, ?_⟩
    · rw [List.length_map, e1]
      omega
    · rw [slash_eq, SX.join_S, SX.S_len, SX.S_len]
      have := join_len hp.ok
      exact le_size (by simp only [List.length_singleton]; omega)
    · have e : ("/" : Str) ++ Txt.join "/" (ns.map SX.S) = txt ns := by
        rw [slash_eq, SX.join_S, SX.S_cat]
        rfl
      rw [e]
      exact k H (Same.refl H)
def sp_names_in (K : PySem.W.Frag) : Sp := fun vs H Q _ => ∃ ns, vs = [.str (txt ns)] ∧ OkP ns ∧ ∀ H' p, Same H H' → H p = none → H' p = some (.tup (sv ns)) → Q (.ref p) H'
theorem sc_names_in : FnScope ["text", "names", "left", "slash", "name"] ["text"] (defScope s_names_in) := ⟨rfl, rfl, rfl, by decide +kernel, rfl, by decide +kernel, by decide +kernel⟩
theorem ok_names_in (T : Tx K mg) : C8.Cal P w K mg base 1 "names_in" (sp_names_in K) [] := by
  refine cal_of T.f_names_in T.g_names_in sc_names_in (fun _ _ _ _ _ _ us hl => match us, hl with | [_], _ => rfl) (fun vs H Q E h => ?_) (fun cdv A outer s H vs Q E hr h => ?_)
  · obtain ⟨ns, rfl, _⟩ := h
    rfl
  · obtain ⟨ns, rfl, hp, k⟩ := h
    have nd := sc_names_in.nd
    refine ⟨_, (pss_cons (ps_set (i := 1) nd rfl (Or.inl rfl) (pe_lst pa_nil))
      (pss_cons (ps_par (i := 2) (j := 3) rfl nd rfl rfl (by decide) rfl rfl (pa_cons (pe_slice C8.sl_txt (pv 0) (po_some pe_int) po_none) (pa_cons (pe_ifExp (pt_cmpR op_ne (pv 0) pe_str (nomark _)) pe_str pe_str) pa_nil)) (by rfl))
      (pss_cons (ps_while PassesOwn.never (pt_cmpR op_eq (pv 3) pe_str (nomark _)) (pss_cons (ps_asg (pe_partition (pv 2) pe_str) (pg_tup (by rfl) (pgs_cons (pg_name (i := 4) nd rfl (Or.inl rfl)) (pgs_cons (pg_name (i := 3) nd rfl (Or.inl rfl)) (pgs_cons (pg_name (i := 2) nd rfl (Or.inl rfl)) pgs_nil)))))
      (pss_one (ps_expr (pe_bm PySem.F.plainAttrs_list PySem.F.slot_list_append PySem.F.type_list_append mt_append (pv 1) (pa_cons (pv 4) pa_nil))))))
      (pss_one (ps_ret (pe_callTy call_tuple_of (by rfl) T.z_tuple (by decide +kernel) (pa_cons (pv 1) pa_nil))))))), ?_⟩
    walk_at "nf"
    refine ⟨Nat.zero_le _, fun l hl => ⟨_, rfl, _, rfl, _, rfl, le_size (by have := txt_len hp; omega), _, rfl, rfl, _, rfl, ite_par ?_⟩⟩
    refine ⟨fun m σ H' => ∃ (j : Nat) (left : Str) (nm : Option V), σ = [some (.str (txt ns)), some (.ref l), some (.str left), some (.str (if j < ns.length then "/" else "")), nm] ∧ Same H H' ∧ H' l = some (.lst (sv (ns.take j))) ∧ j + m = ns.length ∧
      (j < ns.length → left = SX.S (TL.joinL [47] (ns.drop j))), ⟨ns.length, 0, Txt.slice (txt ns) (some 1) none, none, ?_, (Same.refl H).new hl, upd_same, by omega, fun h => ?_⟩, ?_⟩
    · have e : (if (!decide (V.str (txt ns) = V.str ("/" : Str))) = true then V.str ("/" : Str) else V.str ("" : Str)) = V.str (if 0 < ns.length then "/" else "") := by
        by_cases hz : ns = []
        · have e1 := (txt_ne hp.ok).mpr hz
          rw [e1, hz]
          simp
        · have e1 : ¬ txt ns = ("/" : Str) := fun q => hz ((txt_ne hp.ok).mp q)
          have e2 : ¬ V.str (txt ns) = V.str ("/" : Str) := fun q => e1 (V.str.inj q)
          rw [decide_eq_false e2, if_pos (List.length_pos_iff.mpr hz)]
          rfl
      rw [e]
      rfl
    · show Txt.slice (SX.S (pc ns)) (some 1) none = _
      rw [SX.slice_from (by decide)]
      rfl
    · rintro m σ H1 ⟨j, left, nm, rfl, e, h1, hj, hleft⟩
      walk_at "nf"
      refine ⟨_, rfl, rfl, _, rfl, ?_⟩
      by_cases hlt : j < ns.length
      · rw [if_pos hlt, decide_eq_true rfl]
        obtain ⟨n, lf, hn, ep, hlf⟩ := part_join hp.ok hlt
        have el := hleft hlt
        have hlen : left.length ≤ sizeLine := by
          rw [el, SX.S_len]
          have q := join_len (ns := ns.drop j) fun n hn => hp.ok n (List.mem_of_mem_drop hn)
          rw [List.length_drop] at q
          have := hp.len
          exact le_size (by omega)
        refine iteT ⟨fun σ' H' => ∃ m', m' < m ∧ ∃ j left nm, σ' = [some (.str (txt ns)), some (.ref l), some (.str left), some (.str (if j < ns.length then "/" else "")), nm] ∧ Same H H' ∧ H' l = some (.lst (sv (ns.take j))) ∧ j + m' = ns.length ∧
          (j < ns.length → left = SX.S (TL.joinL [47] (ns.drop j))), fun _ _ h => h, ?_⟩
        refine ⟨_, rfl, ⟨_, rfl⟩, _, _, rfl, rfl, by decide +kernel, hlen, fun p hpp => ?_⟩
        rw [el, ep]
        have nlp : l ≠ p := ne_of_none h1 hpp
        refine ⟨_, _, rfl, SqT.of upd_same, rfl, _, _, rfl, _, _, rfl, _, _, rfl, rfl, _, rfl, .inl ⟨rfl, _, SqL.of ((upd_ne nlp).trans h1)⟩, _, rfl, l, _, _, rfl, rfl, (upd_ne nlp).trans h1, ?_, ?_⟩
        · rw [sv_len, List.length_take]
          have := hp.len
          exact lt_size (by omega)
        · refine ⟨m - 1, by omega, j + 1, lf, _, rfl, (e.new hpp).mut hl, ?_, by omega, hlf⟩
          rw [upd_same, take_snoc hn, sv_snoc]
      · rw [if_neg hlt]
        have e0 : decide (V.str ("" : Str) = V.str ("/" : Str)) = false := by decide +kernel
        rw [e0]
        refine iteF ⟨_, rfl, l, _, rfl, .inl ⟨SqL.of h1, fun p hpp => ?_⟩⟩
        have ej : ns.take j = ns := List.take_of_length_le (by omega)
        rw [ej]
        exact k _ p (e.new hpp) (e.free hpp) upd_same
end
end NS
set_option Elab.async false
set_option linter.all false
set_option maxRecDepth 100000
set_option maxHeartbeats 4000000
/-! Texts of places: looked at, read. -/
namespace NS
open PySem PySem.Spec PyProof.Rows L2 He
local macro_rules | `(tactic| walk_at "nf") => `(tactic| dsimp only [L2.tNext, L2.tSeq, L2.tDrop, L2.tRet, L2.tRetN, L2.tIfS, L2.tAsg, L2.gName, L2.gCons, L2.gNil, L2.gTup, L2.tOp, L2.tUn, L2.tTest, L2.tChain, L2.tB, L2.tAnd, L2.tOr, L2.tNot, L2.tAndV, L2.tOrV, L2.tNotV, L2.tIf, L2.tCB, L2.tNil, L2.tCons, L2.tTup, L2.tLst, L2.tFld, L2.sFld, L2.tCall, L2.tMeth, L2.tMake, L2.tBM, L2.tBM0, L2.tM1, L2.tM0, L2.tSl, L2.tPart, L2.tNoPart, L2.tPar, L2.tVar, L2.tC, L2.cxOf, L2.tYes, C8.tCut])
theorem sv_get {ns : List (List Nat)} {i : Nat} {x : V} (h : (sv ns)[i]? = some x) : ∃ n, ns[i]? = some n ∧ x = .str (SX.S n) := by
  unfold sv at h
  rw [List.getElem?_map, List.getElem?_map] at h
  cases e : ns[i]? with
  | none =>
    rw [e] at h
    cases h
  | some n =>
    rw [e] at h
    exact ⟨n, rfl, (Option.some.inj h).symm⟩
theorem q_isi_strP {K : PySem.W.Frag} {mg : Str → Option Value} (T : Tx K mg) {H : Hp} {Q : VK} {x : Str} (q : Q (.bl false) H) : rIsi K [.str x, .ref (ga K "Place")] H Q := ⟨_, _, _, _, _, rfl, .own _, .base (.str x), T.kit, q⟩
section
variable {P : Program} {w : World} {K : PySem.W.Frag} {mg : Str → Option Value} {base : Heap}
def sp_is_text : Sp := fun vs H Q _ => ∃ ns, vs = [.str (txt ns)] ∧ OkP ns ∧ ∀ H', Same H H' → Q (.bl true) H'
theorem sc_is_text : FnScope ["value", "names", "name"] ["value"] (defScope s_is_text) := ⟨rfl, rfl, rfl, by decide +kernel, rfl, by decide +kernel, by decide +kernel⟩
theorem ok_is_text (T : Tx K mg) : C8.Cal P w K mg base 2 "is_text" sp_is_text [] := by
  refine cal_of T.f_is_text T.g_is_text sc_is_text (fun _ _ _ _ _ _ us hl => match us, hl with | [_], _ => rfl) (fun vs H Q E h => ?_) (fun cdv A outer s H vs Q E hr h => ?_)
  · obtain ⟨ns, rfl, _⟩ := h
    rfl
  · obtain ⟨ns, rfl, hp, k⟩ := h
    have nd := sc_is_text.nd
    refine ⟨_, (pss_cons (ps_if (PW.pt (pw_or (pt_not (pt_val (pe_callB call_isi (by rfl) T.z_isinstance (by decide +kernel) (pa_cons (pv 0) (pa_cons (pe_bltn (v := .ty "str") (u := .type "str") rfl T.z_str (by decide +kernel) rfl) pa_nil))))) (pw_or1 (pt_cmpR op_ne (pe_slice C8.sl_txt (pv 0) po_none (po_some pe_int)) pe_str (nomark _))))) (pss_one (ps_ret pe_bl)) pss_nil)
      (pss_cons (ps_set (i := 1) nd rfl (Or.inl rfl) (C8.pe_c (ok_names_in T) hr (by decide) rfl (pa_cons (pv 0) pa_nil)))
      (pss_one (ps_ret (pe_and (pe_cmpR op_le (pe_callB call_len_seq (by rfl) T.z_len (by decide +kernel) (pa_cons (pv 1) pa_nil)) (C8.pe_gc rfl T.v_MOST_NAMES) (nomark _)) (pe_one (pe_callB (cr_all rfl) (by rfl) T.z_all (by decide +kernel) (pa_cons (pe_lc (own := [("name", 2)]) rfl nd (pi_tup (pv 1)) (blkOk_by (by kernel_rfl)) (fun _ _ _ _ _ => (pg_name (i := 2) nd rfl (Or.inl rfl))) (fun _ _ _ _ _ => pts_nil) (fun _ _ _ _ _ => (C8.pe_c (ok_is_name T) hr (by decide) rfl (pa_cons (pv 2) pa_nil)))) pa_nil)))))))), ?_⟩
    walk_at "nf"
    refine ⟨_, rfl, q_isi_str ⟨_, rfl, iteF ⟨_, rfl, _, rfl, _, rfl, le_size (by have := txt_len hp; omega), rfl, _, rfl, ?_⟩⟩⟩
    have e1 : Txt.slice (txt ns) none (some 1) = ("/" : Str) := by
      rw [slash_eq]
      show Txt.slice (SX.S (pc ns)) none (some 1) = _
      rw [SX.slice_to (by decide)]
      rfl
    have e2 : (!decide (V.str (Txt.slice (txt ns) none (some 1)) = V.str ("/" : Str))) = false := by
      rw [e1]
      simp
    rw [e2]
    refine iteF ⟨_, rfl, ns, rfl, hp, fun H1 p e hpn h1 => ?_⟩
    have e3 : decide (((sv ns).length : Int) ≤ 8) = true := decide_eq_true (by rw [sv_len]; have := hp.len; omega)
    refine ⟨_, rfl, p, _, rfl, .inr (SqT.of h1), _, _, rfl, rfl, _, rfl, ?_⟩
    rw [e3]
    refine iteT ⟨_, rfl, p, rfl, ⟨_, SqT.of h1⟩, fun D hD => lc_go (walk_tup (xs := sv ns)) hD (fun i acc _ => acc = List.replicate i (V.bl true)) (fun H2 e2 => Same.tup e2 (SqT.of h1)) rfl ?_ ?_⟩
    · rintro i x H2 H3 acc hi e4 hDD hl r ⟨rfl, hx⟩
      obtain ⟨n, hn, rfl⟩ := sv_get hx
      walk_at "nf"
      refine ⟨rfl, iteT ⟨_, rfl, n, rfl, hp.ok n (List.mem_of_getElem? hn), fun H4 e5 => lc_put hD (e5 _ _ hDD) (e4.trans e5) hl ?_ id ?_⟩⟩
      · rw [sv_len] at hi
        have := hp.len
        omega
      · rw [r, List.replicate_succ']
    · intro H2 acc e4 hDD r
      refine ⟨D, List.replicate (sv ns).length true, rfl, SqL.of (by rw [hDD, r]; simp), ?_⟩
      have ea : (List.replicate (sv ns).length true).all id = true := by simp
      show Q (.bl ((List.replicate (sv ns).length true).all id)) H2
      rw [ea]
      exact k H2 (e.trans e4)
def sp_parts_at (K : PySem.W.Frag) : Sp := sp_names_in K
theorem sc_parts_at : FnScope ["value"] ["value"] (defScope s_parts_at) := ⟨rfl, rfl, rfl, by decide +kernel, rfl, by decide +kernel, by decide +kernel⟩
theorem ok_parts_at (T : Tx K mg) : C8.Cal P w K mg base 3 "parts_at" (sp_parts_at K) [] := by
  refine cal_of T.f_parts_at T.g_parts_at sc_parts_at (fun _ _ _ _ _ _ us hl => match us, hl with | [_], _ => rfl) (fun vs H Q E h => ?_) (fun cdv A outer s H vs Q E hr h => ?_)
  · obtain ⟨ns, rfl, _⟩ := h
    rfl
  · obtain ⟨ns, rfl, hp, k⟩ := h
    have nd := sc_parts_at.nd
    refine ⟨_, (pss_cons (ps_if (pt_val (pe_callB call_isi (by rfl) T.z_isinstance (by decide +kernel) (pa_cons (pv 0) (pa_cons (pe_glob (v := .ref (ga K "Place")) rfl T.g_Place rfl) pa_nil)))) (pss_one (ps_ret (pe_never))) pss_nil)
      (pss_cons (ps_if (pt_not (pt_val (C8.pe_c (ok_is_text T) hr (by decide) rfl (pa_cons (pv 0) pa_nil)))) (pss_one ps_never) pss_nil)
      (pss_one (ps_ret (C8.pe_c (ok_names_in T) hr (by decide) rfl (pa_cons (pv 0) pa_nil)))))), ?_⟩
    walk_at "nf"
    refine ⟨_, rfl, q_isi_strP T ⟨_, rfl, iteF ⟨_, rfl, ns, rfl, hp, fun H1 e => ⟨_, rfl, iteF ⟨_, rfl, ns, rfl, hp, fun H2 p e2 hpn h2 => ?_⟩⟩⟩⟩⟩
    exact k H2 p (e.trans e2) (e.free hpn) h2
def sp_text_at : Sp := fun vs H Q _ => ∃ ns, vs = [.str (txt ns)] ∧ OkP ns ∧ ∀ H', Same H H' → Q (.str (txt ns)) H'
theorem sc_text_at : FnScope ["value"] ["value"] (defScope s_text_at) := ⟨rfl, rfl, rfl, by decide +kernel, rfl, by decide +kernel, by decide +kernel⟩
theorem ok_text_at (T : Tx K mg) : C8.Cal P w K mg base 4 "text_at" sp_text_at [] := by
  refine cal_of T.f_text_at T.g_text_at sc_text_at (fun _ _ _ _ _ _ us hl => match us, hl with | [_], _ => rfl) (fun vs H Q E h => ?_) (fun cdv A outer s H vs Q E hr h => ?_)
  · obtain ⟨ns, rfl, _⟩ := h
    rfl
  · obtain ⟨ns, rfl, hp, k⟩ := h
    have nd := sc_text_at.nd
    refine ⟨_, (pss_one (ps_ret (C8.pe_c (ok_text_of T) hr (by decide) rfl (pa_cons (C8.pe_c (ok_parts_at T) hr (by decide) rfl (pa_cons (pv 0) pa_nil)) pa_nil)))), ?_⟩
    walk_at "nf"
    refine ⟨_, rfl, ns, rfl, hp, fun H1 p e hpn h1 => ⟨p, ns, rfl, SqT.of h1, hp, fun H2 e2 => k H2 (e.trans e2)⟩⟩
end
end NS
set_option Elab.async false
set_option linter.all false
set_option maxRecDepth 100000
set_option maxHeartbeats 4000000
/-! Texts in their order: the one strictly ascending list of some texts. -/
namespace NS
open PySem PySem.Spec PyProof.Rows L2 He
theorem lc_irr : ∀ l : List Nat, ltCps l l = false
  | [] => rfl
  | a :: r => by
    show (decide (a < a) || (a == a && ltCps r r)) = false
    rw [lc_irr r]
    simp
theorem lc_trans : ∀ {a b c : List Nat}, ltCps a b = true → ltCps b c = true → ltCps a c = true
  | [], [], _, h, _ => by cases h
  | [], _ :: _, [], _, h => by cases h
  | [], _ :: _, _ :: _, _, _ => rfl
  | _ :: _, [], _, h, _ => by cases h
  | _ :: _, _ :: _, [], _, h => by cases h
  | a :: r, b :: t, c :: u, h, g => by
    have h1 : (decide (a < b) || (a == b && ltCps r t)) = true := h
    have g1 : (decide (b < c) || (b == c && ltCps t u)) = true := g
    show (decide (a < c) || (a == c && ltCps r u)) = true
    simp only [Bool.or_eq_true, Bool.and_eq_true, decide_eq_true_eq, beq_iff_eq] at h1 g1 ⊢
    rcases h1 with h1 | ⟨h1, h2⟩
    · rcases g1 with g1 | ⟨g1, _⟩
      · exact .inl (by omega)
      · exact .inl (by omega)
    · rcases g1 with g1 | ⟨g1, g2⟩
      · exact .inl (by omega)
      · exact .inr ⟨by omega, lc_trans h2 g2⟩
theorem lc_tri : ∀ {a b : List Nat}, a ≠ b → ltCps a b = false → ltCps b a = true
  | [], [], h, _ => absurd rfl h
  | [], _ :: _, _, h => by cases h
  | _ :: _, [], _, _ => rfl
  | a :: r, b :: t, h, g => by
    have g1 : (decide (a < b) || (a == b && ltCps r t)) = false := g
    show (decide (b < a) || (b == a && ltCps t r)) = true
    simp only [Bool.or_eq_false_iff, decide_eq_false_iff_not, Bool.or_eq_true, Bool.and_eq_true, decide_eq_true_eq, beq_iff_eq] at g1 ⊢
    by_cases e : a = b
    · subst e
      refine .inr ⟨rfl, lc_tri (fun q => h (by rw [q])) ?_⟩
      have := g1.2
      simpa using this
    · exact .inl (by omega)
def ltS (a b : Str) : Prop := ltCps a.cps.toList b.cps.toList = true
instance (a b : Str) : Decidable (ltS a b) := inferInstanceAs (Decidable (_ = _))
theorem str_ext {a b : Str} (h : a.cps.toList = b.cps.toList) : a = b := by
  obtain ⟨a⟩ := a
  obtain ⟨b⟩ := b
  exact congrArg Str.mk (Array.toList_inj.mp h)
theorem ltS_irr (a : Str) : ¬ ltS a a := by
  unfold ltS
  rw [lc_irr]
  exact Bool.false_ne_true
theorem ltS_trans {a b c : Str} (h : ltS a b) (g : ltS b c) : ltS a c := lc_trans h g
theorem ltS_tri {a b : Str} (h : a ≠ b) (g : ¬ ltS a b) : ltS b a := lc_tri (fun q => h (str_ext q)) (by
  unfold ltS at g
  simpa using g)
def insS (x : Str) : List Str → List Str
  | [] => [x]
  | y :: r => if x = y then y :: r else if ltS x y then x :: y :: r else y :: insS x r
/-- the strictly ascending list of these texts -/
def usrt : List Str → List Str
  | [] => []
  | x :: r => insS x (usrt r)
theorem mem_insS {x z : Str} : ∀ {l : List Str}, z ∈ insS x l ↔ z = x ∨ z ∈ l
  | [] => by simp [insS]
  | y :: r => by
    unfold insS
    split
    · rename_i e
      subst e
      simp
    · split
      · simp
      · rw [List.mem_cons, mem_insS, List.mem_cons]
        constructor
        · rintro (h | h | h)
          · exact .inr (.inl h)
          · exact .inl h
          · exact .inr (.inr h)
        · rintro (h | h | h)
          · exact .inr (.inl h)
          · exact .inl h
          · exact .inr (.inr h)
theorem mem_usrt {z : Str} : ∀ {l : List Str}, z ∈ usrt l ↔ z ∈ l
  | [] => Iff.rfl
  | x :: r => by
    show z ∈ insS x (usrt r) ↔ _
    rw [mem_insS, mem_usrt, List.mem_cons]
theorem pw_insS {x : Str} : ∀ {l : List Str}, l.Pairwise ltS → (insS x l).Pairwise ltS
  | [], _ => List.pairwise_singleton _ _
  | y :: r, h => by
    have ⟨h1, h2⟩ := List.pairwise_cons.mp h
    unfold insS
    split
    · exact h
    · rename_i e
      split
      · rename_i g
        refine List.pairwise_cons.mpr ⟨fun z hz => ?_, h⟩
        rcases List.mem_cons.mp hz with q | hz
        · rw [q]; exact g
        · exact ltS_trans g (h1 z hz)
      · rename_i g
        refine List.pairwise_cons.mpr ⟨fun z hz => ?_, pw_insS h2⟩
        rcases mem_insS.mp hz with q | hz
        · rw [q]; exact ltS_tri e g
        · exact h1 z hz
theorem pw_usrt : ∀ l : List Str, (usrt l).Pairwise ltS
  | [] => List.Pairwise.nil
  | x :: r => pw_insS (pw_usrt r)
theorem pw_uniq : ∀ {s t : List Str}, s.Pairwise ltS → t.Pairwise ltS → (∀ z, z ∈ s ↔ z ∈ t) → s = t
  | [], [], _, _, _ => rfl
  | [], b :: t, _, _, h => absurd ((h b).mpr (List.mem_cons_self ..)) (by simp)
  | a :: s, [], _, _, h => absurd ((h a).mp (List.mem_cons_self ..)) (by simp)
  | a :: s, b :: t, hs, ht, h => by
    have ⟨hs1, hs2⟩ := List.pairwise_cons.mp hs
    have ⟨ht1, ht2⟩ := List.pairwise_cons.mp ht
    have e : a = b := by
      have h1 := (h a).mp (List.mem_cons_self ..)
      have h2 := (h b).mpr (List.mem_cons_self ..)
      rcases List.mem_cons.mp h1 with e | h1
      · exact e
      · rcases List.mem_cons.mp h2 with e | h2
        · exact e.symm
        · exact absurd (ltS_trans (ht1 a h1) (hs1 b h2)) (ltS_irr _)
    subst e
    refine congrArg (a :: ·) (pw_uniq hs2 ht2 fun z => ?_)
    constructor
    · intro hz
      rcases List.mem_cons.mp ((h z).mp (List.mem_cons_of_mem _ hz)) with e | q
      · subst e
        exact absurd (hs1 z hz) (ltS_irr _)
      · exact q
    · intro hz
      rcases List.mem_cons.mp ((h z).mpr (List.mem_cons_of_mem _ hz)) with e | q
      · subst e
        exact absurd (ht1 z hz) (ltS_irr _)
      · exact q
theorem usrt_of {s l : List Str} (h : s.Pairwise ltS) (hm : ∀ z, z ∈ s ↔ z ∈ l) : s = usrt l := pw_uniq h (pw_usrt l) fun z => by rw [hm, mem_usrt]
theorem usrt_self {s : List Str} (h : s.Pairwise ltS) : usrt s = s := (usrt_of h fun _ => Iff.rfl).symm
theorem usrt_congr {l m : List Str} (h : ∀ z, z ∈ l ↔ z ∈ m) : usrt l = usrt m := usrt_of (pw_usrt l) fun z => by rw [mem_usrt, h]
theorem rising_pw : ∀ {l : List Str} {p : Str}, risingS p l = true → (p :: l).Nodup → (p :: l).Pairwise ltS
  | [], _, _, _ => List.pairwise_singleton _ _
  | x :: r, p, h, nd => by
    have h1 : (!ltCps x.cps.toList p.cps.toList && risingS x r) = true := h
    rw [Bool.and_eq_true, Bool.not_eq_true'] at h1
    have ⟨n1, n2⟩ := List.nodup_cons.mp nd
    have ih := rising_pw h1.2 n2
    have hpx : ltS p x := ltS_tri (fun q => n1 (by rw [← q]; exact List.mem_cons_self ..)) (by unfold ltS; rw [h1.1]; exact Bool.false_ne_true)
    refine List.pairwise_cons.mpr ⟨fun z hz => ?_, ih⟩
    rcases List.mem_cons.mp hz with q | hz
    · rw [q]; exact hpx
    · exact ltS_trans hpx ((List.pairwise_cons.mp ih).1 z hz)
/-- what sorted gives of unlike texts -/
theorem sorted_usrt {ys xs : List Str} (hp : ys.Perm xs) (hs : sortedS ys = true) (nd : xs.Nodup) : ys = usrt xs := by
  have ny : ys.Nodup := hp.nodup_iff.mpr nd
  refine usrt_of ?_ fun z => hp.mem_iff
  cases ys with
  | nil => exact List.Pairwise.nil
  | cons y r => exact rising_pw hs ny
theorem nodup_usrt (l : List Str) : (usrt l).Nodup := List.Pairwise.imp (R := ltS) (S := (· ≠ ·)) (fun {a b} h e => by
  subst e
  exact ltS_irr a h) (pw_usrt l)
theorem perm_usrt {l : List Str} (h : l.Nodup) : (usrt l).Perm l := (List.perm_ext_iff_of_nodup (nodup_usrt l) h).mpr fun z => mem_usrt
theorem len_usrt (l : List Str) : (usrt l).length ≤ l.length := by
  induction l with
  | nil => exact Nat.le_refl _
  | cons x r ih =>
    have : ∀ m : List Str, (insS x m).length ≤ m.length + 1 := by
      intro m
      induction m with
      | nil => exact Nat.le_refl _
      | cons y t ih =>
        unfold insS
        split
        · exact Nat.le_succ _
        · split
          · exact Nat.le_refl _
          · exact Nat.succ_le_succ ih
    have := this (usrt r)
    show (insS x (usrt r)).length ≤ r.length + 1
    omega
end NS
set_option Elab.async false
set_option linter.all false
set_option maxRecDepth 100000
set_option maxHeartbeats 4000000
/-! Rules of our own: the special methods of the program's classes. -/
namespace NS
open PySem PySem.Spec PyProof.Rows L2 He
section
variable {X : Cx} {k j : Nat} {C : Addr} {sp : Sp}
/-- a method of an instance, called by values -/
theorem run_met {pins : List (Addr × Obj)} {σ : L2.St} {H : Hp} {s : Shared} {Q : VK} {f : Addr} {fd : FuncData} {ps : List Str} {ds : List Value} {us : List Value} {vs : List V} {A : Around} {E : Value → Shared → Prop}
    (F : FnOk X.prog X.w X.K X.mg X.base CX0 k f fd ps sp) (hr : Room k A) (hA : A.frames = X.A.frames) (hb : Binds X.K fd ps ds) (hd : Vals [] ds) (I : Inv X pins σ H s) (r : Vals vs us) (h : sp vs H Q E0) :
    wpAny (model X.prog X.w) A (call (.ref f) us) (EP X pins σ Q) E s := by
  have e0 : Env0 X.prog X.w X.K X.mg X.base A X.stack s H := by
    have e := I.env0
    exact ⟨by rw [hA]; exact e.frames, e.mod, e.bs, e.bsz, e.funs, e.frf, e.hok, e.bare⟩
  cases hd
  have hl := F.len _ _ _ _ h
  refine wpAny_call (codeAny_mono (F.run A X.stack s H ⟨us, []⟩ us vs Q E0 hr e0 (by
    have := hb s us I.kIn (by rw [List.append_nil, ← r.length]; exact hl)
    simpa using this) r h) fun r s' hq => ?_)
  cases r with
  | error e => exact False.elim hq
  | ok fl =>
    cases fl with
    | ret u => exact I.after hq
    | next => exact False.elim hq
    | brk => exact False.elim hq
    | cont => exact False.elim hq
/-- x in o by the class's own __contains__ -/
def rOwnIn (C : Addr) (sp : Sp) : R2 := fun x y H Q => ∃ a dx fs, y = .ref a ∧ H a = some (.ins C dx fs) ∧ sp [.ref a, x] H (fun v H' => ∃ b, v = .bl b ∧ Q (.bl b) H') E0
theorem op_own_in (c : C8.Met X.prog X.w X.K X.mg X.base k C "__contains__" sp []) (hr : Room j X.A) (hk : k ≤ j) : OpR X (compareOp .In) (rOwnIn C sp) := by
  intro pins s σ H x y v u Q I rx ry h
  obtain ⟨a, dx, fs, rfl, ha, q⟩ := h
  obtain rfl : u = Value.ref a := ry
  obtain ⟨f, fd, ps, ds, hc, hm, F, b, d⟩ := c.ex
  obtain ⟨mA, O, _⟩ := ins_get I.hok ha
  obtain ⟨od, J, _⟩ := O.look
  have hf : PySem.W.typeIn X.K (.ref f) = some (.type "function") := beq_iff_eq.mp hm.fn
  unfold compareOp
  dsimp only
  refine wpAny_bind ?_
  unfold contains
  refine wpAny_holding ?_
  have e1 : stdlibNamesSay? (.ref a) v = none := by
    unfold stdlibNamesSay?
    rfl
  rw [e1]
  dsimp only
  refine wpAny_bind (wpAny_bind (J.type.here ((PySem.W.looks_findIn I.kIn hm.at_).here ?_)))
  rw [show (some (Value.ref f) == some Value.none) = false from rfl]
  simp only [Bool.false_eq_true, if_false]
  unfold callSpecialUnlessNone?
  refine wpAny_bind (wpAny_bind (wpAny_bind (J.type.here ((PySem.W.looks_findIn I.kIn hm.at_).here ?_))))
  dsimp only
  refine wpAny_holding (wpAny_bind ((PySem.W.bind_fn I.kIn _ hf).here ?_))
  dsimp only
  rw [show (Value.ref f == Value.none) = false from rfl]
  simp only [Bool.false_eq_true, if_false]
  refine wpAny_bind (wpAny_mono (run_met F (hr.mono hk) rfl b d I (.cons (show RelV (.ref a) (Value.ref a) from rfl) (.cons rx .nil)) q) (fun r s' hq => ?_) fun _ _ z => z)
  obtain ⟨z, H', I', rz, bb, rfl, q'⟩ := hq
  obtain rfl : r = Value.bool bb := rz
  exact wpAny_pure (wpAny_truthy_bool (wpAny_pure ⟨.bl bb, H', I', rfl, q'⟩))
/-- len(o) by the class's own __len__ -/
def rOwnLen (C : Addr) (sp : Sp) : List V → Hp → VK → Prop := fun vs H Q => ∃ a dx fs, vs = [.ref a] ∧ H a = some (.ins C dx fs) ∧ sp [.ref a] H (fun v H' => ∃ n : Nat, v = .int n ∧ n ≤ 1000 ∧ Q (.int n) H') E0
theorem call_own_len (c : C8.Met X.prog X.w X.K X.mg X.base k C "__len__" sp []) (hr : Room j X.A) (hk : k + 1 ≤ j) : CallR X (.builtin "len") (rOwnLen C sp) := by
  intro pins s σ H vs us Q I r h
  obtain ⟨a, dx, fs, rfl, ha, q⟩ := h
  cases r with
  | cons r0 rr =>
    cases rr
    obtain rfl := (show _ = Value.ref a from r0)
    obtain ⟨f, fd, ps, ds, hc, hm, F, b, d⟩ := c.ex
    obtain ⟨mA, O, _⟩ := ins_get I.hok ha
    obtain ⟨od, J, _⟩ := O.look
    have hf : PySem.W.typeIn X.K (.ref f) = some (.type "function") := beq_iff_eq.mp hm.fn
    refine Calls.call_function_entry kind_len plain_len entry_len (args_len1 _) ?_
    unfold Builtin.«len»
    refine wpAny_bind (m := oneArg "len" _) (wpAny_pure ?_)
    refine wpAny_bind (m := callSpecial? (.ref a) (Str.ofString "__len__")) (PySem.W.special_fn I.kIn J hm.at_ hf (wpAny_mono (run_met F ((hr.mono hk).in1) rfl b d I (.cons (show RelV (.ref a) (Value.ref a) from rfl) .nil) q) (fun r s' hq => ?_) fun _ _ y => y))
    obtain ⟨z, H', I', rz, n, rfl, hn, q'⟩ := hq
    obtain ⟨t, rfl⟩ := (show ∃ t, r = Value.int n t from rz)
    refine wpAny_bind (wpAny_holding (wpAny_pure ?_))
    refine wpAny_bind (wpAny_letGo ?_)
    show wpAny _ _ (if (n : Int) < 0 then _ else _) _ _ _
    rw [if_neg (by omega)]
    show wpAny _ _ (if (n : Int) ≥ 2 ^ 63 then _ else _) _ _ _
    rw [if_neg (by omega)]
    exact wpAny_bind (wpAny_mkInt (wpAny_pure ⟨_, rfl, V.int n, H', I'.tok _, ⟨_, rfl⟩, q'⟩))
/-- o[i] by the class's own __getitem__ -/
def tOwnItem (C : Addr) (sp : Sp) (ta tb : TE) : TE := fun σ H Q => ta σ H fun x H1 => tb σ H1 fun y H2 => ∃ a dx fs, x = .ref a ∧ H2 a = some (.ins C dx fs) ∧ sp [.ref a, y] H2 Q E0
theorem pe_own_item {a b : Expr} {ta tb : TE} {pos : Pos} {x : Str} (c : C8.Met X.prog X.w X.K X.mg X.base k (ga X.K x) "__getitem__" sp []) (hi : PySem.W.noSeq X.K (ga X.K x) = true ∧ PySem.W.fnIn X.K (ma X.K (ga X.K x) "__getitem__") = true) (hr : Room j X.A) (hk : k + 1 ≤ j)
    (ha : PE X a ta) (hb : PE X b tb) (hs : ∀ o i, subscripted b true o i = runValue (.builtin "lifetime.subscript" ⟨[o, i], []⟩) := by exact fun _ _ => rfl) : PE X (.Subscript a b pos) (tOwnItem (ga X.K x) sp ta tb) := by
  refine ⟨fun pins s σ H Q I h => ?_⟩
  refine Subscript_ (binT ha hb I h fun v u s2 x' y H2 I2 rx ry q => ?_)
  obtain ⟨p, dx, fs, rfl, hp, q⟩ := q
  obtain rfl : v = Value.ref p := rx
  obtain ⟨f, fd, ps, ds, hc, hm, F, b', d⟩ := c.ex
  obtain ⟨mA, O, _⟩ := ins_get I2.hok hp
  obtain ⟨od, J, _⟩ := O.look
  obtain ⟨m, hF⟩ := I2.fr
  have ef : ma X.K (ga X.K x) "__getitem__" = f := by
    unfold ma
    rw [hm.at_]
  refine PySem.W.sub_K hF I2.ok.mod.kin J hm.at_ (by rw [← ef]; exact hi.2) hm.fn ?_ (hs _ _)
  exact run_met F ((hr.mono hk).in1) rfl b' d I2 (.cons (show RelV (.ref p) (Value.ref p) from rfl) (.cons ry .nil)) q
end
end NS
set_option Elab.async false
set_option linter.all false
set_option maxRecDepth 100000
set_option maxHeartbeats 4000000
/-! Rules of our own: enumerate over a tuple, a property, pieces of lists and tuples. -/
namespace NS
open PySem PySem.Spec PyProof.Rows L2 He
/-! ### enumerate(tuple) -/
def IteT (K : PySem.W.Frag) (a : Addr) : It :=
  ⟨fun i H => ∃ (xs : List V) (x : V), SqT K H a xs ∧ xs[i]? = some x, fun i H v H' => ∃ T x, v = .ref T ∧ H T = none ∧ H' = upd H T (.tup [.int (i : Nat), x]) ∧ ∀ xs, SqT K H a xs → xs[i]? = some x, fun i H => ∃ xs : List V, SqT K H a xs ∧ xs.length ≤ i⟩
theorem turn_enumT {P : Program} {w : World} {K : PySem.W.Frag} {elts : List Expr} {kk : Nat} {tpos : Pos} (a e it : Addr) (hai : a ≠ it) (hae : a ≠ e) :
    Turn P w K (.Tuple elts kk tpos) (IteT K a) [e, it] e (fun i h => (∃ old, IsEnum h e it ((i : Nat) : Int) old) ∧ h.IsTupleIter it a i ∧ e ≠ it) where
  mem := by simp
  obj := fun i h st b hb => by
    obtain ⟨⟨old, he⟩, ⟨o, ho, hc, hd⟩, _⟩ := st
    have e' : b = e ∨ b = it := by simpa using hb
    rcases e' with z | z
    · rw [z]; exact ⟨_, he, fun v q => nomatch q⟩
    · rw [z]; exact ⟨o, ho, fun v q => by rw [hd] at q; cases q⟩
  keep := fun i h h' st k => let ⟨⟨old, he⟩, hi, hne⟩ := st; ⟨⟨old, k e (by simp) _ he⟩, hi.at fun o q => k it (by simp) o q, hne⟩
  item := by
    intro X hP hw hK hc i pins s σ H E I hf st hg
    subst hP hw hK
    obtain ⟨⟨old, he⟩, hit, hne⟩ := st
    obtain ⟨xs, x, hq, hx⟩ := hg
    obtain ⟨its, rv, p, hz⟩ := I.tuple hq
    obtain ⟨u, hu, ru⟩ := rv.get hx
    have hel : e < s.heap.objs.size := Heap.lt_size he
    have hil : it < s.heap.objs.size := by obtain ⟨_, q, _⟩ := hit; exact Heap.lt_size q
    have hlt : i < its.toArray.size := by
      obtain ⟨h, _⟩ := List.getElem?_eq_some_iff.mp hu
      simpa using h
    refine wpAny_pyNext_enum_itemC (Draws.tuple (prog := X.prog) (w := X.w) (A := X.A.in1) (I.ok.hd hc) it a hai its.toArray) he ⟨hit, p⟩ hlt hne (by simp [hne, Ne.symm hae]) fun y h' tk hy ho hst hT hsz hk => ?_
    obtain rfl : y = u := by
      have h2 : its[i]? = some y := by simpa using hy
      exact Option.some.inj (h2.symm.trans hu)
    refine ⟨_, rfl, wpAny_letOwnedTupleGo_enum (s := { s with heap := h', toks := tk + 1 }) ho fun h'' he' sb => ?_⟩
    have hT2 : h''.get? s.heap.objs.size = some { cls := .type "tuple", data := .seq #[.int i tk, y] } := (sb.2 _ (Nat.ne_of_gt hel)).trans hT
    have new : ObjOk X.prog X.w (upd H s.heap.objs.size (.tup [.int (i : Nat), x])) h'' s.heap.objs.size (.tup [.int (i : Nat), x]) :=
      ⟨by show 2 ≤ sizeLine; decide, [.int i tk, y], .cons ⟨_, rfl⟩ (.cons ru .nil), ⟨_, hT2, rfl, _, rfl⟩⟩
    have I1 : Inv X pins σ (upd H s.heap.objs.size (.tup [.int (i : Nat), x])) { s with heap := h'', toks := tk + 1 } :=
      I.turnedNew (ch := [e, it]) (fun b ob hb q => (sb.2 b (fun z => hb (by simp [z]))).trans (hk b ob (fun z => hb (by simp [z])) (fun z => hb (by simp [z])) q)) hf (Nat.le_refl _) new
    refine ⟨.ref s.heap.objs.size, _, I1, rfl, ⟨_, x, rfl, I.hok.fresh (Nat.le_refl _), rfl, fun ys hy => by rw [I.tuple_inj hy hq]; exact hx⟩, ⟨⟨y, ?_⟩, hst.1.at fun o q => (sb.2 it (Ne.symm hne)).trans q, hne⟩, fun b hb => ?_⟩
    · have e1 : ((i + 1 : Nat) : Int) = (i : Int) + 1 := by omega
      rw [e1]; exact he'
    · have hb' : b < s.heap.objs.size := by
        have e' : b = e ∨ b = it := by simpa using hb
        rcases e' with z | z
        · rw [z]; exact hel
        · rw [z]; exact hil
      rw [upd_ne (Nat.ne_of_lt hb')]
      exact (hf b hb).1
  done := by
    intro X hP hw hK hc i pins s σ H E I hf st hg
    subst hP hw hK
    obtain ⟨⟨old, he⟩, hit, hne⟩ := st
    obtain ⟨xs, hq, hx⟩ := hg
    obtain ⟨its, rv, p, hz⟩ := I.tuple hq
    obtain ⟨f0, f1, f2, f3, f4, f5⟩ := hf it (by simp)
    have hl := rv.length
    have hh := I.ok.hd hc
    have hT : s.TypeIs (.ref e) "enumerate" := ⟨_, he, rfl⟩
    unfold pyNext
    refine wpAny_bind (wpAny_attempt (wpAny_callSpecial?_slot (name := Str.ofString "__next__") hT F.slot_enumerate_next
      (wpAny_call_entry F.slot_enumerate_next hT F.entry_enumerate_next ?_ (F.args_enumerate_next_1 _))))
    show wpAny _ _ (field (.ref e) 2 >>= _) _ _ _
    refine wpAny_bind (wpAny_field he rfl (x := .ref it) rfl ?_)
    refine wpAny_bind (wpAny_nextOf_tuple_end (A := X.A.in1) hh hit p (by simp; omega) fun h' x he' hx' => ?_)
    obtain ⟨o, ho, hc⟩ := hx'
    refine wpAny_bind (wpAny_isInstance (T := "StopIteration") (b := true) ⟨o, ho, hc⟩ isSubtype_stop ?_)
    exact wpAny_pure ⟨rfl, I.turned (t' := s.toks) (fun b o hb q => he' b o hb q) f0 f1 f3 f4 f5⟩
  self := fun A i s Q E st h => let ⟨⟨_, he⟩, _⟩ := st; wpAny_pyIter_enum he h
theorem meets_enum_new1 {v : Value} {o : Obj} {H : Heap → Prop} (B : Begins v o H) :
    Meets (Builtin.«enumerate.__new__» ⟨[.type "enumerate", v], []⟩) (fun _ R s => H s.heap ∧
      R (.ok (.ret (.ref (s.heap.push o).objs.size))) { s with heap := (s.heap.push o).push { cls := .type "enumerate", data := .fields #[.none, .bool false, .ref s.heap.objs.size, rawInt 0, .none, .none] } }) :=
  .of_wp fun prog w A R s h => by
    obtain ⟨hp, g, d, tk, os⟩ := s; obtain ⟨h1, h⟩ := h
    have hsub := sub_enumerate
    have q1 : ∀ {A' : Around} {E : Value → Shared → Prop} {Q : Value → Shared → Prop}, Q (.ref hp.objs.size) ⟨hp.push o, g, d, tk, os⟩ → wpAny (model prog w) A' (pyIter v) Q E ⟨hp, g, d, tk, os⟩ :=
      fun q => B.iter prog w _ _ ⟨hp, g, d, tk, os⟩ _ h1 q
    wp_walk using q1
    refine wpAny_stack_any fun st => wpAny_pure ?_
    split
    · rename_i c _ _ _ _ _
      cases (c == Value.type "enumerate")
      · wp_walk using q1
        exact ⟨_, rfl, h⟩
      · wp_walk using q1
        exact ⟨_, rfl, h⟩
    · wp_walk using q1
      exact ⟨_, rfl, h⟩
section
variable {prog : Program} {w : World} {A : Around} {E : Value → Shared → Prop} {s : Shared}
theorem enum_begins1 {v : Value} {o : Obj} {H : Heap → Prop} {Q : Value → Shared → Prop} (B : Begins v o H) (h1 : H s.heap)
    (h : ∀ h', IsEnum h' (s.heap.objs.size + 1) s.heap.objs.size 0 .none → h'.get? s.heap.objs.size = some o → h'.objs.size = s.heap.objs.size + 2 →
      (∀ b o, s.heap.get? b = some o → h'.get? b = some o) → Q (.ref (s.heap.objs.size + 1)) { s with heap := h' }) :
    wpAny (model prog w) A (call (.type "enumerate") [v]) Q E s := by
  refine callType_new F.called_enumerate (by decide) (F.typeCall_enumerate_1 _) (F.newCall_enumerate_1 _) (fun obj => F.args_object_init_2 obj _) F.entry_enumerate_new
    (meets_enum_new1 B) ⟨h1, ?_⟩
  have hz : (s.heap.push o).objs.size = s.heap.objs.size + 1 := Heap.size_push ..
  show _ ∧ _
  rw [hz]
  have he : IsEnum ((s.heap.push o).push { cls := .type "enumerate", data := .fields #[.none, .bool false, .ref s.heap.objs.size, rawInt 0, .none, .none] }) (s.heap.objs.size + 1) s.heap.objs.size 0 .none := by
    have := Heap.get?_push_size (s.heap.push o) (o := { cls := .type "enumerate", data := .fields #[.none, .bool false, .ref s.heap.objs.size, rawInt 0, .none, .none] }) rfl
    rw [hz] at this; exact this
  refine ⟨⟨_, he, rfl⟩, h _ he (Heap.get?_push_of_some _ (Heap.get?_push_size _ B.free)) (by rw [Heap.size_push, hz]) fun b o x => Heap.get?_push_of_some _ (Heap.get?_push_of_some _ x)⟩
end
/-- enumerate of a list or of a tuple -/
def iEnumA (K : PySem.W.Frag) (ta : TA) : TI := fun σ H R => ta σ H fun vs H1 => ∃ a xs, vs = [.ref a] ∧ ((SqL K H1 a xs ∧ R (Ite K a) H1) ∨ (SqT K H1 a xs ∧ R (IteT K a) H1))
theorem pi_enumA {X : Cx} {e : Expr} {ta : TA} {p pos tpos : Pos} {elts : List Expr} {kk : Nat} (hg : Gl X "enumerate") (hm : X.mg "enumerate" = none) (ha : PA X [e] ta) (hs : starEach [e] X.env = [(false, eval e X.env)] := by rfl) :
    PI X (.Tuple elts kk tpos) (.Call (.Name "enumerate" p) [e] [] pos) (iEnumA X.K ta) := by
  refine ⟨fun pins s σ H R I h => ?_⟩
  refine Call_ (ld_blt I hg hm boot_enumerate (PyProof.Rows.callWith_type1 (thn (ha.run pos pins s σ H _ I h) fun us s1 ⟨vs, H1, I1, r1, q1⟩ => ?_) hs rfl))
  obtain ⟨a, xs, ex, hq⟩ := q1
  subst ex
  cases r1 with
  | cons r rr =>
    cases rr
    cases r
    have fp : ∀ b, b ∈ [s1.heap.objs.size + 1, s1.heap.objs.size] → FpOk X pins H1 b := fun b hb => by
      have e' : b = s1.heap.objs.size + 1 ∨ b = s1.heap.objs.size := by simpa using hb
      have hle : s1.heap.objs.size ≤ b := by
        rcases e' with z | z
        · rw [z]; exact Nat.le_add_right _ _
        · rw [z]; exact Nat.le_refl _
      exact I1.fpOk hle (I1.hok.fresh hle)
    rcases hq with ⟨hq, q⟩ | ⟨hq, q⟩
    · obtain ⟨its, rv, p', hz⟩ := I1.list hq
      refine call_enumerate_list p'.isList fun h' he hit hsz hk => wpAny_pyIter_enum he ?_
      have I2 : Inv X pins σ H1 { s1 with heap := h' } := I1.kept (t' := s1.toks) hk
      exact ⟨s1.heap.objs.size + 1, [s1.heap.objs.size + 1, s1.heap.objs.size], _, _, H1, rfl, I2, turn_enum a (s1.heap.objs.size + 1) s1.heap.objs.size, ⟨⟨.none, he⟩, hit, Nat.succ_ne_self _⟩, fp, q⟩
    · obtain ⟨its, rv, p', hz⟩ := I1.tuple hq
      have hal : a < s1.heap.objs.size := by obtain ⟨_, z, _⟩ := p'; exact Heap.lt_size z
      refine enum_begins1 (begins_tuple a its.toArray) p' fun h' he hit hsz hk => wpAny_pyIter_enum he ?_
      have I2 : Inv X pins σ H1 { s1 with heap := h' } := I1.kept (t' := s1.toks) hk
      exact ⟨s1.heap.objs.size + 1, [s1.heap.objs.size + 1, s1.heap.objs.size], _, _, H1, rfl, I2, turn_enumT a (s1.heap.objs.size + 1) s1.heap.objs.size (Nat.ne_of_lt hal) (Nat.ne_of_lt (Nat.lt_succ_of_lt hal)), ⟨⟨.none, he⟩, ⟨_, hit, rfl, rfl⟩, Nat.succ_ne_self _⟩, fp, q⟩
section
variable {K : PySem.W.Frag} {a : Addr} {xs : List V}
theorem walk_enumT : Walk (IteT K a) xs.length (fun H => SqT K H a xs) (YPair (fun i => some (.int (i : Nat))) (fun i => xs[i]?)) := by
  refine ⟨fun i _ hi q => ⟨xs, xs[i], q, by simp [hi]⟩, fun _ q => ⟨xs, q, Nat.le_refl _⟩, fun i H v H' _ q y => ?_⟩
  obtain ⟨T, x, h1, h2, h3, h4⟩ := y
  exact ⟨T, .int (i : Nat), x, h1, h2, h3, rfl, h4 xs q⟩
end
/-! ### a property told by its getter -/
section
variable {X : Cx} {k j : Nat} {C : Addr} {sp : Sp} {e : Expr} {ta : TE} {pos : Pos} {f : Str}
/-- a property of the class at C -/
structure Prp (P : Program) (w : World) (K : PySem.W.Frag) (mg : Str → Option Value) (base : Heap) (k : Nat) (C : Addr) (f : Str) (sp : Sp) : Prop where
  ex : ∃ p g fd ps ds, Cls K C ∧ PropOf K C f p g ∧ FnOk P w K mg base CX0 k g fd ps sp ∧ Binds K fd ps ds ∧ Vals [] ds
def tPrp (C : Addr) (sp : Sp) (ta : TE) : TE := fun σ H Q => ta σ H fun x H1 => ∃ a dx fs, x = .ref a ∧ H1 a = some (.ins C dx fs) ∧ sp [.ref a] H1 Q E0
theorem pe_propC (c : Prp X.prog X.w X.K X.mg X.base k C f sp) (hr : Room j X.A) (hk : k + 1 ≤ j) (he : PE X e ta)
    (hab : attributeBase e f X.env (eval e X.env) = eval e X.env := by rfl) : PE X (.Attribute e f pos) (tPrp C sp ta) := by
  obtain ⟨p, g, fd, ps, ds, c1, hp, F, hb, hd⟩ := c.ex
  exact pe_prop he c1 hp F (hr.mono hk) hb hd (fun _ _ _ _ _ _ _ h => False.elim h) hab
end
end NS
set_option Elab.async false
set_option linter.all false
set_option maxRecDepth 100000
set_option maxHeartbeats 4000000
/-! Rules of our own: {**a, **b}, dict(d). -/
namespace NS
open PySem PySem.Spec PyProof.Rows L2 He
section
variable {prog : Program} {w : World} {A : Around} {E : Value → Shared → Prop} {s : Shared}
theorem dictPut_ok {d : Addr} {kvs : List (Key × Value)} {k : Key} {key v : Value} {Q : Unit → Shared → Prop} (hkey : (mixKind prog w).is k key = true) (hm : s.heap.DictOf (mixKind prog w) d kvs)
    (hf : k ∉ kvs.map (·.1)) (hQ : ∀ h', h'.DictOf (mixKind prog w) d (kvs ++ [(k, v)]) → Heap.SameBut d s.heap h' → Q () { s with heap := h' })
    (hsz : kvs.length ≤ sizeLine) : wpAny (model prog w) A (dictPut d ((mixKind prog w).hash k) key v) Q E s := by
  obtain ⟨o, es, ep, ho, hc, hd, hk, hp, hn⟩ := hm
  have hes : es.size ≤ sizeLine := by
    have e1 := hp.length
    have e2 : es.toList.length = es.size := by simp
    omega
  unfold dictPut
  refine wpAny_bind (wpAny_dictFind_of hkey ho hd hk ?_)
  have hidx : (es.findIdx? fun e => (mixKind prog w).is k e.key) = kvs.findIdx? fun kv => decide (kv.1 = k) := by
    rw [← hp.findIdx k]; obtain ⟨l⟩ := es; simp
  have h0 : (es.findIdx? fun e => (mixKind prog w).is k e.key) = none := by
    rw [hidx, List.findIdx?_eq_none_iff]
    intro x hx
    exact decide_eq_false fun q => hf (List.mem_map.mpr ⟨x, hx, q⟩)
  rw [h0]
  refine wpAny_updateDictKeys (hz := hes) ho hd (hQ _ ⟨_, _, ep + 1, Heap.get?_update_self _ ho (Obj.isFreed_of_dict (Obj.data_mapDictKeys hd _)),
      hc.mapDictKeys _, Obj.data_mapDictKeys hd _, hk.push hkey _, ?_, ?_⟩ (Heap.SameBut.update ..))
  · have := hp.append hkey ((mixKind prog w).hash k) v
    obtain ⟨l⟩ := es
    simpa using this
  · rw [List.map_append, List.nodup_append]
    refine ⟨hn, by simp, ?_⟩
    intro a ha b hb
    simp only [List.map_cons, List.map_nil, List.mem_singleton] at hb
    subst hb
    exact fun e => hf (e ▸ ha)
theorem merge_ok {d o : Addr} {more : List (Key × Value)} {Q : Unit → Shared → Prop} (hdo : d ≠ o) (hoS : (o == sysModules) = false)
    (hd : s.heap.DictOf (mixKind prog w) d []) (ho : s.heap.DictOf (mixKind prog w) o more) (hsz : more.length ≤ sizeLine)
    (hQ : ∀ h', h'.DictOf (mixKind prog w) d more → Heap.SameBut d s.heap h' → Q () { s with heap := h' }) :
    wpAny (model prog w) A (mergeMapping d (.ref o) false) Q E s := by
  obtain ⟨od, esd, epd, hod, hcd, hdd, hkd, hpd, hnd⟩ := id hd
  obtain ⟨oo, eso, epo, hoo, hco, hdo', hko, hpo, hno⟩ := id ho
  have hlen : more.length = eso.size := by rw [← hpo.length]; simp
  have h0 : esd = #[] := by
    have := hpd.length
    exact Array.toList_eq_nil_iff.mp (List.length_eq_zero_iff.mp this)
  unfold mergeMapping
  dsimp only
  refine wpAny_bind (m := isInstance (.ref o) (.type "dict")) (wpAny_isInstance ho.typeIs isSubtype_dict_dict ?_)
  simp only [if_true]
  refine wpAny_bind (wpAny_specialOf ho.typeIs F.slot_dict_iter.lookup ?_)
  refine wpAny_bind (wpAny_pure ?_)
  simp only [beq_self_eq_true]
  rw [if_neg (by rw [hoS]; exact Bool.false_ne_true)]
  refine wpAny_bind (wpAny_dictEntries hod hdd ?_)
  rw [if_pos (by rw [h0]; rfl)]
  refine wpAny_bind (wpAny_dictEntries hoo hdo' ?_)
  have quiet : (forIn eso PUnit.unit fun e (_ : PUnit) => (match e.key with
      | Value.ref a => do
        let x ← specialOf e.key (Str.ofString "__eq__")
        if (x != some (Value.builtin "object.__eq__")) = true then
          if (eso.filter (fun x => x.hash == e.hash)).size > 1 then do
            let _ ← (unsupported "dict.merge-into-an-empty-dict:keys-of-equal-hash" : Sem PUnit)
            pure (ForInStep.yield PUnit.unit)
          else pure (ForInStep.yield PUnit.unit)
        else pure (ForInStep.yield PUnit.unit)
      | x => pure (ForInStep.yield PUnit.unit) : Sem (ForInStep PUnit))) = pure PUnit.unit := by
    rw [← Array.forIn_toList]
    refine forIn_yield_id _ fun e he c => ?_
    obtain ⟨k, hkey, _⟩ := hko e (Array.mem_toList_iff.mp he)
    cases hv : e.key with
    | ref b =>
      rw [hv] at hkey
      cases k <;> cases hkey
    | _ => rfl
  refine wpAny_bind (wpAny_of_eq quiet ?_)
  refine wpAny_bind (wpAny_dictEntries hoo hdo' ?_)
  refine wpAny_bind (wpAny_dictEpoch hoo hdo' ?_)
  refine wpAny_bind ?_
  rw [List.range_eq_range']
  refine wpAny_forIn_list _
    (fun rest _ s' => ∃ h' i, s' = { s with heap := h' } ∧ rest = List.range' i (eso.size - i) ∧ i ≤ eso.size ∧ h'.DictOf (mixKind prog w) d (more.take i) ∧ h'.get? o = some oo ∧ Heap.SameBut d s.heap h')
    _ ?_ ?_ _ _ ⟨s.heap, 0, rfl, by simp, Nat.zero_le _, by simpa using hd, hoo, Heap.SameBut.refl _ _⟩
  · rintro x rest b s' ⟨h', i, rfl, hr, hi, hd', hoo', hs'⟩
    have hlt : i < eso.size := by
      rcases Nat.lt_or_ge i eso.size with h | h
      · exact h
      · rw [Nat.sub_eq_zero_of_le h] at hr; simp at hr
    obtain ⟨rfl, hrest⟩ : x = i ∧ rest = List.range' (i + 1) (eso.size - (i + 1)) := by
      have e : eso.size - i = (eso.size - (i + 1)) + 1 := by omega
      rw [e, List.range'_succ] at hr
      injection hr with h1 h2
      exact ⟨h1, h2⟩
    refine wpAny_bind (wpAny_dictEntries hoo' hdo' ?_)
    rw [Array.getElem?_eq_getElem hlt]
    obtain ⟨kv, hkv⟩ : ∃ kv, more[x]? = some kv := ⟨more[x]'(by rw [hlen]; exact hlt), List.getElem?_eq_getElem _⟩
    obtain ⟨k, v⟩ := kv
    obtain ⟨hkey, hval⟩ := hpo.get? (e := eso[x]) (by simp [hlt]) hkv
    obtain ⟨k', hkey', hhash⟩ := hko eso[x] (Array.getElem_mem hlt)
    obtain rfl : k' = k := (mixKind prog w).inj _ _ _ hkey' hkey
    dsimp only
    simp only [Bool.false_eq_true, if_false]
    rw [hhash, hval]
    have hml : (more.take x).length ≤ sizeLine := by rw [List.length_take]; omega
    have hfr : k' ∉ (more.take x).map (·.1) := by
      intro q
      obtain ⟨y, hy, ey⟩ := List.mem_map.mp q
      obtain ⟨j, hj⟩ := List.mem_iff_getElem?.mp hy
      have hjx : j < x := by
        have := (List.getElem?_eq_some_iff.mp hj).1
        rw [List.length_take] at this
        omega
      have hj2 : more[j]? = some y := by
        rw [List.getElem?_take_of_lt hjx] at hj
        exact hj
      have n1 : (more.map (·.1))[j]? = some k' := by rw [List.getElem?_map, hj2]; exact congrArg some ey
      have n2 : (more.map (·.1))[x]? = some k' := by rw [List.getElem?_map, hkv]; rfl
      have := (List.getElem?_inj (by rw [List.length_map]; have := (List.getElem?_eq_some_iff.mp hj2).1; exact this) hno).mp (n1.trans n2.symm)
      omega
    refine wpAny_bind (wpAny_holding (dictPut_ok hkey hd' hfr (fun h'' hd'' hs'' => ?_) hml))
    have hoo'' : h''.get? o = some oo := (hs''.2 o (Ne.symm hdo)).trans hoo'
    refine wpAny_bind (wpAny_dictEpoch hoo'' hdo' ?_)
    rw [if_neg (by simp)]
    refine wpAny_pure ⟨h'', x + 1, rfl, hrest, hlt, ?_, hoo'', hs'.trans hs''⟩
    rw [List.take_add_one, hkv]
    exact hd''
  · rintro b s' ⟨h', i, rfl, hr, hi, hd', hoo', hs'⟩
    have hin : i = eso.size := by
      rcases Nat.lt_or_ge i eso.size with h | h
      · have e : eso.size - i = (eso.size - (i + 1)) + 1 := by omega
        rw [e, List.range'_succ] at hr; exact nomatch hr
      · exact Nat.le_antisymm hi h
    rw [hin, ← hlen, List.take_length] at hd'
    exact wpAny_pure (hQ h' hd' hs')
end
section
variable {X : Cx} {e1 e2 : Expr} {t1 t2 : TE} {pos : Pos}
/-- {**a, **b}, a empty -/
def tStar2 (t1 t2 : TE) : TE := fun σ H Q => ∀ p, H p = none → t1 σ (upd H p (.dK [])) fun x H1 => ∃ a, x = .ref a ∧ H1 p = some (.dK []) ∧ H1 a = some (.dK []) ∧ a ≠ p ∧ t2 σ H1 fun y H2 => ∃ b kvs, y = .ref b ∧ b ≠ p ∧ H2 p = some (.dK []) ∧ H2 b = some (.dK kvs) ∧ Q (.ref p) (upd H2 p (.dK kvs))
theorem pe_starstar (h1 : PE X e1 t1) (h2 : PE X e2 t2) : PE X (.Dict [none, none] [e1, e2] pos) (tStar2 t1 t2) := by
  refine ⟨fun pins s σ H Q I q => ?_⟩
  have hn := I.hok.fresh (Nat.le_refl s.heap.objs.size)
  have I1 := I.laid (a := s.heap.objs.size) (o := .dK []) (h' := s.heap.push { cls := .type "dict", data := .dict #[] }) (t' := s.toks) (fun _ _ q => Heap.get?_push_of_some _ q) (Nat.le_refl _) (dk_empty s.heap I.big)
  have step : ∀ {H1 : Hp} {s1 : Shared} {a : Addr} {kvs : List (Key × V)} {Q' : Unit → Shared → Prop} {E : Value → Shared → Prop} {A : Around}, Inv X pins σ H1 s1 → H1 s.heap.objs.size = some (.dK []) → H1 a = some (.dK kvs) → a ≠ s.heap.objs.size →
      (∀ s', Inv X pins σ (upd H1 s.heap.objs.size (.dK kvs)) s' → Q' () s') → wpAny (model X.prog X.w) A (mergeMapping s.heap.objs.size (.ref a) false) Q' E s1 := by
    intro H1 s1 a kvs Q' E A I1 hp ha hne k
    obtain ⟨_, hd, vs0, r0, dd0⟩ := dk_of I1.hok hp
    obtain ⟨z, hda, vs, r, dd⟩ := dk_of I1.hok ha
    cases r0
    refine merge_ok (Ne.symm hne) hda dd0 dd (by rw [← r.length]; exact z) fun h' dd' hs => k _ ?_
    have he : ∃ q, h'.get? s.heap.objs.size = some q := let ⟨q, _, _, hq, _⟩ := dd'; ⟨q, hq⟩
    exact d_write I1 (by rw [hp]; exact True.intro) hs he (dk_new z hd r dd')
  have run2 : wpAny (model X.prog X.w) X.A (dictDisplay ((evalEachOpt [none, none] X.env).zip ((evalEach [e1, e2] X.env).map fun v => do let x ← v; standAt pos; pure x))) (EP X pins σ Q) X.xe s := by
    show wpAny _ _ (dictDisplay [(none, _), (none, _)]) _ _ _
    unfold dictDisplay
    dsimp only
    rw [List.forIn_cons]
    dsimp only [List.isEmpty]
    simp only [if_true]
    refine wpAny_bind (wpAny_bind (wpAny_bind (wpAny_pure ?_)))
    dsimp only
    refine wpAny_bind (wpAny_alloc ?_)
    refine wpAny_bind (wpAny_holding (wpAny_bind (thn (h1.run pins _ σ _ _ I1 (q _ hn)) fun u s1 ⟨x, H1, I2, rx, a, ex, hp, ha, hne, q1⟩ => wpAny_bind (wpAny_standAt (wpAny_pure ?_)))))
    subst ex
    obtain rfl : u = Value.ref a := rx
    refine wpAny_bind (wpAny_onRaise (wpAny_tryCatch (wpAny_onRaise (wpAny_holding (step I2 hp ha hne fun s2 I3 => ?_)))))
    refine wpAny_pure ?_
    dsimp only
    rw [List.forIn_cons]
    dsimp only
    simp only [if_true]
    refine wpAny_bind (wpAny_bind (wpAny_pure ?_))
    dsimp only
    refine wpAny_bind (wpAny_pure ?_)
    have eH : upd H1 s.heap.objs.size (.dK []) = H1 := by
      funext b
      by_cases hb : b = s.heap.objs.size
      · rw [hb, upd_same, hp]
      · rw [upd_ne hb]
    rw [eH] at I3
    refine wpAny_bind (wpAny_holding (wpAny_bind (thn (h2.run pins _ σ _ _ I3 q1) fun u s3 ⟨y, H2, I4, ry, b, kvs, ey, hne2, hp2, hb2, q2⟩ => wpAny_bind (wpAny_standAt (wpAny_pure ?_)))))
    subst ey
    obtain rfl : u = Value.ref b := ry
    refine wpAny_bind (wpAny_onRaise (wpAny_tryCatch (wpAny_onRaise (wpAny_holding (step I4 hp2 hb2 hne2 fun s4 I5 => ?_)))))
    refine wpAny_pure ?_
    dsimp only
    rw [List.forIn_nil]
    refine wpAny_pure ?_
    dsimp only
    simp only [if_true]
    refine wpAny_bind (wpAny_pure ?_)
    exact wpAny_pure ⟨.ref s.heap.objs.size, _, I5, rfl, q2⟩
  exact wpAny_bind (m := standAt pos) (wpAny_standAt run2)
end
end NS
set_option Elab.async false
set_option linter.all false
set_option maxRecDepth 100000
set_option maxHeartbeats 4000000
/-! Sets of texts: set(texts), sorted(set). -/
namespace NS
open PySem PySem.Spec PyProof.Rows L2 He
def skOf (e : Int × Value) : Str := match e.2 with | .str k _ => k | _ => Str.empty
def GoodT (w : World) (e : Int × Value) : Prop := ∃ k tk, e.2 = Value.str k tk ∧ e.1 = hashStr w k
/-- the set at a: its members are those of L -/
def SetT (w : World) (h : Heap) (a : Addr) (L : List Str) : Prop :=
  ∃ o es ep t, h.get? a = some o ∧ o.ExactSet ∧ o.data = .set es ep t ∧ (∀ e ∈ es.toList, GoodT w e) ∧ (es.toList.map skOf).Nodup ∧ (∀ k, k ∈ L ↔ k ∈ es.toList.map skOf) ∧
    es.size ≤ L.length ∧ t.fits es.size = true ∧ Ris t.place.toList ∧ (w.params.followText "set-order" = true ∨ t.led = true)
section
variable {P : Program} {w : World} {h h' : Heap} {a : Addr} {L : List Str}
theorem SetT.at (R : SetT w h a L) (k : ∀ o, h.get? a = some o → h'.get? a = some o) : SetT w h' a L := by
  obtain ⟨o, es, ep, t, ho, r⟩ := R
  exact ⟨o, es, ep, t, k o ho, r⟩
theorem goodT_is {e : Int × Value} (g : GoodT w e) (k : Str) : (PySem.strKind P w).is k e.2 = true ↔ skOf e = k := by
  obtain ⟨k0, tk, h1, _⟩ := g
  unfold skOf
  rw [h1]
  show Value.isStrOf k (.str k0 tk) = true ↔ k0 = k
  simp [Value.isStrOf]
theorem goodT_elems {l : List (Int × Value)} (g : ∀ e ∈ l, GoodT w e) : ElemsOf (PySem.strKind P w) l := fun e he => by
  obtain ⟨k, tk, h1, h2⟩ := g e he
  exact ⟨⟨k, by rw [h1]; exact PySem.strKind_is P w k tk, h2⟩, by rw [h1] <;> rfl⟩
end
section
variable {P : Program} {w : World} {A : Around} {E : Value → Shared → Prop} {s : Shared} {a : Addr} {L : List Str}
theorem setT_tail {g : Bool → Sem Unit} (hg : ∀ (b : Bool) (s₁ : Shared) (Q' : Unit → Shared → Prop), Q' () s₁ → wpAny (model P w) A (g b) Q' E s₁)
    {o : Obj} {es : Array (Int × Value)} {ep : Nat} {t : SetTable} (ho : s.heap.get? a = some o) (hex : o.ExactSet) (hd : o.data = .set es ep t)
    {es1 : Array (Int × Value)} {t2 : SetTable} (g1 : ∀ e ∈ es1.toList, GoodT w e) (nd1 : (es1.toList.map skOf).Nodup) (m1 : ∀ k, k ∈ L ↔ k ∈ es1.toList.map skOf)
    (hs1 : es1.size ≤ L.length) (hb1 : es1.size < scanBound) (hf2 : t2.fits es1.size = true) (hr : Ris t2.place.toList) (hl : w.params.followText "set-order" = true ∨ t2.led = true) {wasDummy : Bool} {R : Option Bool → Shared → Prop}
    (hR : ∀ h', Heap.SameBut a s.heap h' → SetT w h' a L → R (some true) { s with heap := h' }) :
    wpAny (model P w) A (do
        storeSet a es1 t2
        if (!wasDummy && t2.tooFull) = true then do
            g (relayAll t2 es1 (SetTable.grown es1.size)).2.2
            storeSet a (relayAll t2 es1 (SetTable.grown es1.size)).1 (relayAll t2 es1 (SetTable.grown es1.size)).2.1
            pure (some true)
          else pure (some true)) R E s := by
  refine wpAny_bind (wpAny_storeSet_of ho hd ?_ (fits_of_scanBound hb1))
  have ho1 := store_at (es' := es1) (t' := t2) ho hd
  have sb1 := Heap.SameBut.update s.heap a (Obj.putSet es1 t2)
  split
  · have pm := relayAll_perm t2 es1 (SetTable.grown es1.size)
    have hf3 := relayAll_fits t2 es1 (SetTable.grown es1.size)
    have hr3 := relayAll_ris t2 es1 (SetTable.grown es1.size)
    have hl3 := relayAll_led t2 es1 (SetTable.grown es1.size)
    generalize relayAll t2 es1 (SetTable.grown es1.size) = Z at pm hf3 hr3 hl3 ⊢
    obtain ⟨es2, t3, gave⟩ := Z
    dsimp only at pm hf3 hr3 hl3 ⊢
    have hsz : es2.size = es1.size := by rw [← Array.length_toList, pm.length_eq, Array.length_toList]
    refine wpAny_bind (hg _ _ _ ?_)
    refine wpAny_bind (wpAny_storeSet_of ho1 rfl ?_ (fits_of_scanBound (by rw [hsz]; exact hb1)))
    have ho2 := store_at (es' := es2) (t' := t3) ho1 rfl
    exact wpAny_pure (hR _ (sb1.trans (Heap.SameBut.update _ a _)) ⟨_, es2, _, t3, ho2, hex, rfl, fun e he => g1 e (pm.mem_iff.mp he), (pm.map skOf).nodup_iff.mpr nd1, fun k => (m1 k).trans (pm.map skOf).mem_iff.symm,
      by rw [hsz]; exact hs1, hf3, hr3, hl.imp id fun z => by rw [hl3]; exact z⟩)
  · exact wpAny_pure (hR _ sb1 ⟨_, es1, _, t2, ho1, hex, rfl, g1, nd1, m1, hs1, hf2, hr, hl⟩)
theorem setT_add {k : Str} {tk : Tok} {Q : Bool → Shared → Prop} (R : SetT w s.heap a L) (room : L.length + 1 < scanBound)
    (hQ : ∀ b h', Heap.SameBut a s.heap h' → SetT w h' a (L ++ [k]) → Q b { s with heap := h' }) :
    wpAny (model P w) A (setAddHashed a (.str k tk) (hashStr w k)) Q E s := by
  obtain ⟨o, es, ep, t, ho, hex, hd, g, nd, hm, hn, hf, hr, hl⟩ := R
  have hkey : (PySem.strKind P w).is k (.str k tk) = true := PySem.strKind_is P w k tk
  have hsc : (Value.str k tk).scannable = true := rfl
  have hel : ElemsOf (PySem.strKind P w) es.toList := goodT_elems g
  have hb : es.size < scanBound := by omega
  unfold setAddHashed setAddHashedIn
  refine wpAny_holding (wpAny_bind (wpAny_setState_of ho hd hf ?_))
  dsimp only
  rw [byScan_of hsc hb hel]
  simp only [↓reduceIte]
  unfold setAddByScan
  refine wpAny_bind ?_
  refine wpAny_bind (wpAny_rule ?_)
  refine wpAny_bind (wpAny_setScan_of (knd := PySem.strKind P w) (k := k) hkey ho hd hf hel ?_)
  cases hfi : List.findIdx? (fun e => (PySem.strKind P w).is k e.2) es.toList with
  | some j =>
    dsimp only
    obtain ⟨hj, pj, _⟩ := List.findIdx?_eq_some_iff_getElem.mp hfi
    have hk : k ∈ es.toList.map skOf := List.mem_map.mpr ⟨es.toList[j], List.getElem_mem hj, (goodT_is (P := P) (g _ (List.getElem_mem hj)) k).mp pj⟩
    refine wpAny_pure (wpAny_pure (hQ _ s.heap (Heap.SameBut.refl a s.heap) ⟨o, es, ep, t, ho, hex, hd, g, nd, fun i => ?_, ?_, hf, hr, hl⟩))
    · rw [List.mem_append, List.mem_singleton, hm i]
      exact ⟨fun z => z.elim id (fun e => e ▸ hk), .inl⟩
    · rw [List.length_append]
      exact Nat.le_trans hn (Nat.le_add_right _ _)
  | none =>
    dsimp only
    have hnk : k ∉ es.toList.map skOf := fun z => by
      obtain ⟨e, he, q⟩ := List.mem_map.mp z
      have c := List.findIdx?_eq_none_iff.mp hfi e he
      rw [(goodT_is (P := P) (g e he) k).mpr q] at c
      cases c
    have hgw : ∀ (b : Bool) {s₁ : Shared} {Q' : Unit → Shared → Prop}, Q' () s₁ → wpAny (model P w) A (match b with | true => rule "set.scan.the-table-gave-way" | false => pure ()) Q' E s₁ :=
      fun b s₁ Q' q => by cases b <;> first | exact wpAny_pure q | exact wpAny_rule q
    have pm := layNew_perm t es (hashStr w k) (.str k tk)
    have hf1 := layNew_fits t es (hashStr w k) (.str k tk)
    have hr1 := layNew_ris t es (hashStr w k) (.str k tk) hr
    have hl1 := layNew_led t es (hashStr w k) (.str k tk)
    generalize layNew t es (hashStr w k) (.str k tk) = Z at pm hf1 hr1 hl1 ⊢
    obtain ⟨es1, t1, wasDummy, gave⟩ := Z
    dsimp only at pm hf1 hr1 hl1 ⊢
    rw [Array.toList_push] at pm
    have pc : es1.toList.Perm ((hashStr w k, Value.str k tk) :: es.toList) := pm.trans (List.perm_append_singleton _ _)
    have pk : (es1.toList.map skOf).Perm (k :: es.toList.map skOf) := pc.map skOf
    have g1 : ∀ e ∈ es1.toList, GoodT w e := fun e he => by
      rcases List.mem_cons.mp (pc.mem_iff.mp he) with z | z
      · rw [z]; exact ⟨k, tk, rfl, rfl⟩
      · exact g e z
    have nd1 : (es1.toList.map skOf).Nodup := pk.nodup_iff.mpr (List.nodup_cons.mpr ⟨hnk, nd⟩)
    have m1 : ∀ i, i ∈ L ++ [k] ↔ i ∈ es1.toList.map skOf := fun i => by
      rw [List.mem_append, List.mem_singleton, hm i, pk.mem_iff, List.mem_cons]
      exact Or.comm
    have hsz : es1.size = es.size + 1 := by rw [← Array.length_toList, pc.length_eq, List.length_cons, Array.length_toList]
    have hs1 : es1.size ≤ (L ++ [k]).length := by rw [hsz, List.length_append]; simp only [List.length_singleton]; omega
    have hb1 : es1.size < scanBound := by rw [hsz]; omega
    have hled : w.params.followText "set-order" = true ∨ t1.led = true := hl.imp id fun z => by rw [hl1]; exact z
    refine wpAny_bind (hgw _ ?_)
    split
    · refine wpAny_bind ?_
      rw [hashByValue_scannable 8 hsc]
      refine wpAny_pure ?_
      refine setT_tail ?_ ho hex hd g1 nd1 m1 hs1 hb1 ?_ ?_ ?_ ?_
      · intro b s₁ Q' q; cases b <;> first | exact wpAny_pure q | exact wpAny_rule q
      · first | (split <;> first | exact hf1 | exact SetTable.fits_plain_off hf1) | exact hf1
      · first | (split <;> exact hr1) | exact hr1
      · first | (split <;> exact hled) | exact hled
      · intro h' sb r; dsimp only; exact wpAny_pure (hQ _ h' sb r)
    · refine wpAny_bind (wpAny_pure ?_)
      simp only [↓reduceIte]
      refine setT_tail ?_ ho hex hd g1 nd1 m1 hs1 hb1 hf1 hr1 hled ?_
      · intro b s₁ Q' q; cases b <;> first | exact wpAny_pure q | exact wpAny_rule q
      · intro h' sb r; dsimp only; exact wpAny_pure (hQ _ h' sb r)
theorem setT_new {h : Heap} {a : Addr} (w : World) (ho : h.get? a = some { cls := .type "set", dict := none, data := .set #[] 0 (.fresh 0 0 (!w.params.followText "set-order")) }) : SetT w h a [] :=
  ⟨_, #[], 0, _, ho, ⟨rfl, rfl, rfl⟩, rfl, (fun e he => by simp at he), (by simp), (fun k => by simp), (Nat.le_refl _), (by rfl), List.Pairwise.nil, by
    show _ ∨ (!w.params.followText "set-order") = true
    cases w.params.followText "set-order"
    · exact .inr rfl
    · exact .inl rfl⟩
theorem setT_update {I : Addr} {fp wr : List Addr} {G : Array GenState → Array GenState → Prop} {n : Nat} {Pv : Nat → Value → Prop} {St : Nat → Shared → Prop} {R : Result → Shared → Prop}
    (W : WalksS P w A.in1 I fp wr G n Pv St) (S : Addr) (hSf : S ∉ fp) (ns : List Str) (hn : n = ns.length) (hb : ns.length + 1 < scanBound) (hval : ∀ i v, Pv i v → ∃ k t, ns[i]? = some k ∧ v = .str k t) :
    ∀ (k i : Nat) (s : Shared), n - i = k → i ≤ n → St i s → SetT w s.heap S (ns.take i) →
      (∀ s', Moved (S :: wr) G s s' → SetT w s'.heap S ns → R (.ok (.ret .none)) s') →
      codeAny (model P w) A (.builtin "set.update.loop" ⟨[.ref S, .ref I], []⟩) R s := by
  have hSw : S ∉ wr := fun h => hSf (W.sub _ h)
  have hsub : ∀ b ∈ wr, b ∈ S :: wr := fun b hb => List.mem_cons_of_mem _ hb
  intro k
  induction k with
  | zero =>
    intro i s hk' hi hst hS hR
    have hin : i = n := by omega
    subst hin
    refine codeAny_builtin F.entry_set_update_loop ?_
    rw [Around.under_plainId F.plain_set_update_loop _]
    show wpAny _ A.in1 (pyNext (.ref I) >>= _) _ _ s
    refine wpAny_bind (W.done s _ _ hst fun s' hm => ?_)
    show wpAny _ A.in1 (ret Value.none) _ _ s'
    have e : ns.take i = ns := List.take_of_length_le (by omega)
    rw [e] at hS
    exact wpAny_pure (hR s' (hm.mono hsub) (hS.at fun o e => hm.heap S o hSw e))
  | succ k ih =>
    intro i s hk' hi hst hS hR
    have hlt : i < n := by omega
    refine codeAny_builtin F.entry_set_update_loop ?_
    rw [Around.under_plainId F.plain_set_update_loop _]
    show wpAny _ A.in1 (pyNext (.ref I) >>= _) _ _ s
    refine wpAny_bind (W.item i s _ _ hlt hst fun v s' hP hst' hm => ?_)
    obtain ⟨z, t, hz, rfl⟩ := hval i v hP
    have hS' : SetT w s'.heap S (ns.take i) := hS.at fun o e => hm.heap S o hSw e
    show wpAny _ A.in1 (holding [Value.str z t] (setAdd S (.str z t)) >>= _) _ _ s'
    refine wpAny_bind (wpAny_holding ?_)
    unfold setAdd
    refine wpAny_holding ?_
    refine wpAny_bind ((PySem.strKind P w).pyHash (k := z) (PySem.strKind_is P w z t) ?_)
    refine setT_add (s := { s' with toks := s'.toks + 1 }) hS' (by rw [List.length_take]; omega) fun b h' hsb hS2 => ?_
    have hS3 : SetT w h' S (ns.take (i + 1)) := by
      rw [take_snoc hz]
      exact hS2
    refine wpAny_pure ⟨plainId_quiet F.plain_set_update_loop _, ih (i + 1) _ (by omega) hlt (W.frame _ s' _ _ hst' (Nat.le_succ _) fun b hb o e => ?_) hS3 fun s'' hm'' hS'' => ?_⟩
    · rw [hsb.2 b (fun h : b = S => hSf (by rw [← h]; exact hb))]; exact e
    · refine hR s'' (Moved.trans W.gtrans ((hm.mono hsub).then_heap (Nat.le_succ _) fun b o hb e => ?_) hm'') hS''
      rw [hsb.2 b (fun h : b = S => hb (by rw [h]; exact List.mem_cons_self))]; exact e
end
section
variable {P : Program} {w : World} {A : Around} {E : Value → Shared → Prop} {s : Shared}
abbrev emptySet (w : World) : Obj := { cls := .type "set", dict := none, data := .set #[] 0 (.fresh 0 0 (!w.params.followText "set-order")) }
set_option maxHeartbeats 3200000 in
theorem call_setT {l : Addr} {items : Array Value} (ns : List Str) {Q : Value → Shared → Prop} (hh : A.handled = none) (hl : s.heap.IsList l items ∨ s.heap.IsTuple l items) (hit : StrsAre items.toList ns) (hb : ns.length + 1 < scanBound)
    (h : ∀ (h' : Heap) (tk : Nat), SetT w h' s.heap.objs.size ns → (∀ b o, s.heap.get? b = some o → h'.get? b = some o) → Q (.ref s.heap.objs.size) { s with heap := h', toks := tk }) :
    wpAny (model P w) A (call (.type "set") [.ref l]) Q E s := by
  have hisz : items.size = ns.length := by
    have q := StrsAre.length hit
    rw [Array.length_toList] at q
    exact q
  obtain ⟨c, tl, hmro⟩ := F.called_set.mro
  have hmade := F.called_set.made
  have hsub := F.called_set.sub
  refine wpAny_call (codeAny_of_tree ?_)
  show wpAny _ _ (callAny (.type "set") _) _ _ _
  refine wpAny_pure ⟨Code.quiet_builtin _ (by decide +kernel), codeAny_builtin F.entry_type_call ?_⟩
  rw [Around.under_plain (weight_type_call_type "set" [.ref l] []) rfl]
  have h1 := F.called_set.notType
  have h2 := F.called_set.canCreate
  have hct := F.typeCall_set_1 (.ref l)
  repeat (any_goals (first | assumption | wp_step))
  refine codeAny_mono (code_set_led1 (.ref l) (E := E) (Q₁ := fun obj s₁ => obj = .ref s.heap.objs.size ∧ s₁ = { s with heap := s.heap.push (emptySet w) }) ⟨rfl, rfl⟩) fun r s₁ hr => ?_
  cases r with
  | error e => exact hr
  | ok fl =>
    cases fl with
    | ret obj =>
      obtain ⟨rfl, rfl⟩ := hr
      have hS : (s.heap.push (emptySet w)).get? s.heap.objs.size = some (emptySet w) := Heap.get?_push_size _ rfl
      have hT : Shared.TypeIs { s with heap := s.heap.push (emptySet w) } (.ref s.heap.objs.size) "set" := ⟨_, hS, rfl⟩
      have hli := F.called_set.init.lookup
      have hbi := F.called_set.init.bind (.ref s.heap.objs.size)
      repeat (any_goals (first | assumption | wp_step))
      refine codeAny_mono (codeAny_call_builtin (R := wants (fun r s₂ => r = .none ∧ ∃ h' tk, s₂ = { s with heap := h', toks := tk } ∧ SetT w h' s.heap.objs.size ns ∧
          (∀ b o, s.heap.get? b = some o → h'.get? b = some o)) E) F.called_set.init.plain F.entry_set_init (check_set_init_1 hT ?_)) fun r₂ s₂ hr₂ => ?_
      · have hh3 : A.in1.in1.in1.handled = none := by simp [hh]
        have hz1 : (s.heap.push (emptySet w)).objs.size = s.heap.objs.size + 1 := Heap.size_push ..
        have hval : ∀ (i : Nat) (v : Value), items[i]? = some v → ∃ k t, ns[i]? = some k ∧ v = .str k t := fun i v hv => by
          have hi : i < ns.length := by rw [← hisz]; exact (Array.getElem?_eq_some_iff.mp hv).1
          obtain ⟨t, e⟩ := SS.strs_at hit i v (by rw [Array.getElem?_toList]; exact hv)
          refine ⟨ns[i], t, List.getElem?_eq_getElem hi, ?_⟩
          rw [e, List.getD_eq_getElem?_getD, List.getElem?_eq_getElem hi] <;> rfl
        have fin : ∀ (I : Addr) (itO : Obj) (wr : List Addr) (s' : Shared), I = (s.heap.push (emptySet w)).objs.size → wr = [I] → Moved (s.heap.objs.size :: wr) (fun g g' => g' = g) { s with heap := (s.heap.push (emptySet w)).push itO } s' → SetT w s'.heap s.heap.objs.size ns →
            wants (fun r s₂ => r = .none ∧ ∃ h' tk, s₂ = { s with heap := h', toks := tk } ∧ SetT w h' s.heap.objs.size ns ∧ (∀ b o, s.heap.get? b = some o → h'.get? b = some o)) E (.ok (.ret .none)) s' := by
          intro I itO wr s' hI hwr hm hS'
          subst hwr hI
          obtain ⟨h', g2, d', tk', os'⟩ := s'
          have eg : g2 = s.gens := hm.gens
          have ed : d' = s.drawn := hm.drawn
          have eo : os' = s.os := hm.os
          subst eg; subst ed; subst eo
          refine ⟨rfl, h', tk', rfl, hS', fun b o e => ?_⟩
          have hb0 : b < s.heap.objs.size := Heap.lt_size e
          have hb1 : b ≠ s.heap.objs.size := Nat.ne_of_lt hb0
          have hb2 : b ≠ (s.heap.push (emptySet w)).objs.size := by
            rw [Heap.size_push]; exact Nat.ne_of_lt (Nat.lt_succ_of_lt hb0)
          exact hm.heap b o (by simp only [List.mem_cons, List.mem_singleton, List.not_mem_nil, or_false, not_or]; exact ⟨hb1, hb2⟩) (Heap.get?_push_of_some _ (Heap.get?_push_of_some _ e))
        rcases hl with hl | hl
        · obtain ⟨ol, hol, hcl, nl, hdl⟩ := hl
          obtain ⟨ocls, odict, odata, oslots⟩ := ol
          simp only at hcl hdl
          subst hcl; subst hdl
          have hol' : (s.heap.push (emptySet w)).get? l = some { cls := .type "list", dict := odict, data := .seq items nl, slots := oslots } := Heap.get?_push_of_some _ hol
          have hsls := F.sub_list_set
          have hslf := F.sub_list_frozenset
          have hne : (Value.type "list" == Value.type "dict") = false := by decide
          have hl1 : (s.heap.push (emptySet w)).IsList l items := ⟨_, hol', rfl, nl, rfl⟩
          unfold Builtin.«set.__init__» noKeywords Builtin.Frozenset.updateFrom
          generalize hPI : pyIter = PI
          wp_walk
          subst hPI
          refine wpAny_pyIter_list hl1 ?_
          refine wpAny_bind (wpAny_runValue ?_)
          have hlS : l < s.heap.objs.size := Heap.lt_size hol
          have hneI : l ≠ (s.heap.push (emptySet w)).objs.size := by
            rw [Heap.size_push]; exact Nat.ne_of_lt (Nat.lt_succ_of_lt hlS)
          have hSf : s.heap.objs.size ∉ [(s.heap.push (emptySet w)).objs.size, l] := by
            rw [Heap.size_push]; simp only [List.mem_cons, List.mem_singleton, List.not_mem_nil, or_false, not_or]
            exact ⟨Nat.ne_of_lt (Nat.lt_succ_self _), Nat.ne_of_gt hlS⟩
          refine setT_update ((Walks.list hh3 _ l hneI items).toS) s.heap.objs.size
            hSf ns hisz hb hval (items.size - 0) 0 _ (by omega) (Nat.zero_le _)
            ⟨⟨_, Heap.get?_push_size _ rfl, rfl, rfl⟩, (hl1.push _)⟩ (setT_new w (Heap.get?_push_of_some _ hS)) fun s' hm hS' => ?_
          show wpAny _ _ _ _ _ _
          refine wpAny_pure ?_
          show wpAny _ _ (ret Value.none) _ _ _
          exact wpAny_pure (fin _ _ _ s' rfl rfl hm hS')
        · obtain ⟨ol, hol, hcl, nl, hdl⟩ := hl
          obtain ⟨ocls, odict, odata, oslots⟩ := ol
          simp only at hcl hdl
          subst hcl; subst hdl
          have hol' : (s.heap.push (emptySet w)).get? l = some { cls := .type "tuple", dict := odict, data := .seq items nl, slots := oslots } := Heap.get?_push_of_some _ hol
          have hsls := F.sub_tuple_set
          have hslf := F.sub_tuple_frozenset
          have hne : (Value.type "tuple" == Value.type "dict") = false := by decide
          have hl1 : (s.heap.push (emptySet w)).IsTuple l items := ⟨_, hol', rfl, nl, rfl⟩
          unfold Builtin.«set.__init__» noKeywords Builtin.Frozenset.updateFrom
          generalize hPI : pyIter = PI
          wp_walk
          subst hPI
          refine wpAny_pyIter_tuple hl1 ?_
          refine wpAny_bind (wpAny_runValue ?_)
          have hlS : l < s.heap.objs.size := Heap.lt_size hol
          have hneI : l ≠ (s.heap.push (emptySet w)).objs.size := by
            rw [Heap.size_push]; exact Nat.ne_of_lt (Nat.lt_succ_of_lt hlS)
          have hSf : s.heap.objs.size ∉ [(s.heap.push (emptySet w)).objs.size, l] := by
            rw [Heap.size_push]; simp only [List.mem_cons, List.mem_singleton, List.not_mem_nil, or_false, not_or]
            exact ⟨Nat.ne_of_lt (Nat.lt_succ_self _), Nat.ne_of_gt hlS⟩
          refine setT_update ((Walks.tuple hh3 _ l hneI items).toS) s.heap.objs.size
            hSf ns hisz hb hval (items.size - 0) 0 _ (by omega) (Nat.zero_le _)
            ⟨⟨_, Heap.get?_push_size _ rfl, rfl, rfl⟩, (hl1.push _)⟩ (setT_new w (Heap.get?_push_of_some _ hS)) fun s' hm hS' => ?_
          show wpAny _ _ _ _ _ _
          refine wpAny_pure ?_
          show wpAny _ _ (ret Value.none) _ _ _
          exact wpAny_pure (fin _ _ _ s' rfl rfl hm hS')
      · cases r₂ with
        | error e => exact hr₂
        | ok fl₂ =>
          cases fl₂ with
          | ret r =>
            obtain ⟨rfl, h', tk, rfl, hS', hk'⟩ := hr₂
            repeat (any_goals (first | assumption | wp_step))
            exact h _ _ hS' hk'
          | _ => exact hr₂.elim
    | _ => exact hr.elim
end
end NS
set_option Elab.async false
set_option linter.all false
set_option maxRecDepth 100000
set_option maxHeartbeats 4000000
/-! Sets of texts: sorted, the two rules. -/
namespace NS
open PySem PySem.Spec PyProof.Rows L2 He
section
variable {P : Program} {w : World} {A : Around} {E : Value → Shared → Prop} {s : Shared}
theorem strs_of : ∀ (l : List Value), (∀ v ∈ l, ∃ k tk, v = Value.str k tk) → ∃ ss, StrsAre l ss ∧ ss = l.map fun v => skOf (0, v)
  | [], _ => ⟨[], .nil, rfl⟩
  | v :: l, h => by
    obtain ⟨k, tk, rfl⟩ := h v List.mem_cons_self
    obtain ⟨ss, h1, h2⟩ := strs_of l fun u hu => h u (List.mem_cons_of_mem _ hu)
    exact ⟨k :: ss, .cons k tk h1, by rw [h2]; rfl⟩
theorem sorted_setT {a : Addr} {L : List Str} {Q : Value → Shared → Prop} (R : SetT w s.heap a L) (hh : A.handled = none) (h64 : L.length < 64)
    (hQ : ∀ s' p (out : Array Value) (c : Nat) (ss : List Str), (∀ b o, s.heap.get? b = some o → s'.heap.get? b = some o) → s'.gens = s.gens → s'.os = s.os → s.heap.objs.size ≤ p →
      s'.heap.get? p = some (seqObj "list" out c) → StrsAre out.toList ss → sortedS ss = true → ss.Nodup → (∀ k, k ∈ ss ↔ k ∈ L) → Q (.ref p) s') :
    wpAny (model P w) A (call (.builtin "sorted") [.ref a]) Q E s := by
  obtain ⟨o, es, ep, t, ho, hex, hd, g, nd, hm, hn, hf, hr, hl⟩ := R
  have hb : es.size < scanBound := Nat.lt_of_le_of_lt hn (Nat.lt_trans h64 (by decide))
  refine Calls.call_function_entry kind_sorted plain_sorted entry_sorted (args_sorted1 _) ?_
  unfold Builtin.«sorted»
  refine wpAny_bind (m := checkCount "sorted" 1 1 _) (wpAny_pure ?_)
  refine wpAny_bind (collect_set (A := A.in1) hh ⟨o, ho, hex.1, hd⟩ hf hb hr hl fun s1 vs k1 hz g1 o1 pm => ?_)
  have hvl : vs.length < 64 := by rw [pm.length_eq, List.length_map, Array.length_toList]; omega
  obtain ⟨ss, hI, hss⟩ := strs_of vs fun v hv => by
    obtain ⟨e, he, q⟩ := List.mem_map.mp (pm.mem_iff.mp hv)
    obtain ⟨k, tk, h1, _⟩ := g e he
    exact ⟨k, tk, by rw [← q]; exact h1⟩
  have pk : ss.Perm (es.toList.map skOf) := by
    have q := pm.map fun v => skOf (0, v)
    rw [List.map_map] at q
    rw [hss]
    exact q
  refine wpAny_bind (wpAny_newList ?_ (by rw [sizeLine_eq]; omega))
  have hoL : (s1.heap.push (seqObj "list" vs.toArray 0)).get? s1.heap.objs.size = some (seqObj "list" vs.toArray 0) := Heap.get?_push_size _ rfl
  refine wpAny_bind (wpAny_holding (wpAny_call_entry slot_list_sort ⟨_, hoL, rfl⟩ entry_list_sort (list_sort_treeK strKind_oneLt hoL hI.keysOf (fun v₁ v₂ rest e => keyKind_strs (by rw [← e]; exact hI)) hvl fun st' a1 a2 => ⟨_, rfl, ?_⟩) (args_list_sort _)))
  obtain ⟨ss', b1, b2, b3⟩ := sorted_out_str hI a1 a2
  obtain ⟨c, hc⟩ := sortedHeap_at (vs := vs) (out := (arrOf st').map (·.2)) hoL
  have pn : ss'.Perm (es.toList.map skOf) := b2.trans pk
  refine wpAny_pure ⟨_, rfl, hQ _ s1.heap.objs.size _ c ss' (fun b u e => ?_) g1 o1 hz hc b1 b3 (pn.nodup_iff.mpr nd) (fun k => by rw [pn.mem_iff, ← hm k])⟩
  have q := k1 b u e
  have hlt := Heap.lt_size q
  show (sortedHeap (s1.heap.push (seqObj "list" vs.toArray 0)) s1.heap.objs.size vs _).get? b = some u
  rw [sortedHeap_old (Nat.ne_of_lt hlt) (by rw [size_push']; exact Nat.lt_succ_of_lt hlt)]
  exact Heap.get?_push_of_some _ q
end
theorem len_sub {α : Type} [DecidableEq α] : ∀ {l m : List α}, l.Nodup → (∀ x ∈ l, x ∈ m) → l.length ≤ m.length
  | [], _, _, _ => Nat.zero_le _
  | x :: l, m, hn, hs => by
    obtain ⟨h1, h2⟩ := List.nodup_cons.mp hn
    have hx := hs x (by simp)
    have := len_sub (l := l) (m := m.erase x) h2 fun y hy => (List.mem_erase_of_ne (fun e => h1 (by rw [← e]; exact hy))).mpr (hs y (List.mem_cons_of_mem _ hy))
    rw [List.length_erase_of_mem hx] at this
    have hp := List.length_pos_of_mem hx
    rw [List.length_cons]
    omega
section
variable {X : Cx}
/-- the set of the texts L -/
def SetTO (w : World) (a : Addr) (L : List Str) : HO := .ext fun h => SetT w h a L
def rSetT (K : PySem.W.Frag) (w : World) : List V → Hp → VK → Prop := fun xs H Q => ∃ l ss, xs = [V.ref l] ∧ (SqL K H l (ss.map V.str) ∨ SqT K H l (ss.map V.str)) ∧ ss.length < 64 ∧ ∀ p, H p = none → Q (.ref p) (upd H p (SetTO w p ss))
theorem cr_setT (hc : X.calm = true) : CallR X (.type "set") (rSetT X.K X.w) := by
  intro pins s σ H vs us Q I r h
  obtain ⟨l, ss, rfl, hs, h64, q⟩ := h
  rw [Vals.ref1 r]
  have go : ∀ its : List Value, Vals (ss.map V.str) its → (s.heap.IsList l its.toArray ∨ s.heap.IsTuple l its.toArray) → wpAny (model X.prog X.w) X.A (call (.type "set") [.ref l]) (EP X pins σ Q) X.xe s := fun its rv hl => by
    refine call_setT ss (I.ok.hd hc) hl (strsAre_of rv) (Nat.lt_trans (Nat.succ_lt_succ h64) (by decide)) fun h' tk R k => ?_
    refine ⟨.ref s.heap.objs.size, upd H s.heap.objs.size (SetTO X.w s.heap.objs.size ss), I.laid (t' := tk) k (Nat.le_refl _) ?_, rfl, q _ (I.hok.fresh (Nat.le_refl _))⟩
    have ⟨o, _, _, _, ho, _⟩ := R
    exact ⟨R, ⟨o, ho⟩, fun h1 h2 p k => SetT.at p k⟩
  rcases hs with hs | hs
  · obtain ⟨its, rv, hl, _⟩ := I.list hs
    exact go its rv (.inl hl.isList)
  · obtain ⟨its, rv, hl, _⟩ := I.tuple hs
    exact go its rv (.inr hl)
/-- sorted of a set of texts -/
def rSortedT (w : World) : List V → Hp → VK → Prop := fun vs H Q => ∃ (a : Addr) (L : List Str), vs = [V.ref a] ∧ H a = some (SetTO w a L) ∧ L.length < 64 ∧
  ∀ (p : Addr), H p = none → ∀ ss : List Str, sortedS ss = true → ss.Nodup → (∀ k, k ∈ ss ↔ k ∈ L) → ss.length < 64 → Q (.ref p) (upd H p (.lst (ss.map V.str)))
theorem cr_sortedT (hc : X.calm = true) : CallR X (.builtin "sorted") (rSortedT X.w) := by
  intro pins s σ H vs us Q I r h
  obtain ⟨a, L, rfl, ha, h64, q⟩ := h
  have R : SetT X.w s.heap a L := (I.hok a _ ha).1
  rw [Vals.ref1 r]
  refine sorted_setT R (I.ok.hd hc) h64 fun s' p out c ss k g o hp hg hi hs hnd hm => ?_
  have hl : ss.length < 64 := by
    have h1 : ss.length ≤ L.length := len_sub hnd fun x hx => (hm x).mp hx
    omega
  have hlen : (ss.map V.str).length ≤ sizeLine := by rw [List.length_map, sizeLine_eq]; omega
  have hn : H p = none := I.hok.fresh hp
  have J : Inv X pins σ (upd H p (.lst (ss.map V.str))) { s with heap := s'.heap, gens := s'.gens, drawn := s'.drawn, toks := s'.toks } :=
    I.call (ch := []) (Un.laid k hp hn) (I.hok.laid k hp ⟨hlen, out.toList, c, vals_of_strs hi, hg⟩) (by rw [g]; exact I.bare) (fun _ z => nomatch z)
  have e : s' = { s with heap := s'.heap, gens := s'.gens, drawn := s'.drawn, toks := s'.toks } := by
    cases s'
    cases s
    cases o
    rfl
  rw [e]
  exact ⟨.ref p, _, J, rfl, q p hn ss hs hnd hm hl⟩
end
end NS
set_option Elab.async false
set_option linter.all false
set_option maxRecDepth 100000
set_option maxHeartbeats 4000000
/-! Rows and tables: what they are, the small defs about them. -/
namespace NS
open PySem PySem.Spec PyProof.Rows L2 He
local macro_rules | `(tactic| walk_at "nf") => `(tactic| dsimp only [L2.tNext, L2.tSeq, L2.tDrop, L2.tRet, L2.tRetN, L2.tIfS, L2.tAsg, L2.gName, L2.gCons, L2.gNil, L2.gTup, L2.tOp, L2.tUn, L2.tTest, L2.tChain, L2.tB, L2.tAnd, L2.tOr, L2.tNot, L2.tAndV, L2.tOrV, L2.tNotV, L2.tIf, L2.tCB, L2.tNil, L2.tCons, L2.tTup, L2.tLst, L2.tFld, L2.sFld, L2.tCall, L2.tMeth, L2.tMake, L2.tBM, L2.tBM0, L2.tM1, L2.tM0, L2.tSl, L2.tPart, L2.tNoPart, L2.tPar, L2.tVar, L2.tC, L2.cxOf, L2.tYes, C8.tCut])
/-! ### what they are -/
abbrev Cells := List (Str × Str)
abbrev Rws := List (Str × Cells)
def cO (r : Cells) : HO := .dK (r.map fun c => (Sum.inr c.1, V.str c.2))
def NameS (s : Str) : Prop := ∃ n, s = SX.S n ∧ OkN n
def PlaceS (s : Str) : Prop := ∃ ns, s = txt ns ∧ OkP ns
structure OkCols (cols : List Str) : Prop where
  pos : 1 ≤ cols.length
  le : cols.length ≤ 3
  nm : ∀ c ∈ cols, NameS c
  nd : cols.Nodup
structure OkCells (cols : List Str) (r : Cells) : Prop where
  ne : r ≠ []
  key : ∀ c ∈ r, NameS c.1 ∧ c.1 ∈ cols
  val : ∀ c ∈ r, NameS c.2
  nd : (r.map Prod.fst).Nodup
structure OkRows (cols : List Str) (rows : Rws) : Prop where
  le : rows.length ≤ 20
  key : ∀ r ∈ rows, PlaceS r.1
  row : ∀ r ∈ rows, OkCells cols r.2
  asc : (rows.map Prod.fst).Pairwise ltS
theorem OkRows.nd {cols : List Str} {rows : Rws} (h : OkRows cols rows) : (rows.map Prod.fst).Nodup := List.Pairwise.imp (R := ltS) (S := (· ≠ ·)) (fun {a b} h e => by
  subst e
  exact ltS_irr a h) h.asc
theorem OkCells.len {cols : List Str} {r : Cells} (h : OkCells cols r) (hc : OkCols cols) : r.length ≤ 3 := by
  have h1 : (r.map Prod.fst).length ≤ cols.length := len_sub h.nd fun x hx => by
    obtain ⟨c, hc, e⟩ := List.mem_map.mp hx
    rw [← e]
    exact (h.key c hc).2
  rw [List.length_map] at h1
  have := hc.le
  omega
/-- the dict of rows at d -/
structure RowsAt (H : Hp) (d : Addr) (rows : Rws) : Prop where
  ex : ∃ as : List Addr, as.length = rows.length ∧ H d = some (.dK ((rows.zip as).map fun p => (Sum.inr p.1.1, V.ref p.2))) ∧ ∀ p ∈ rows.zip as, H p.2 = some (cO p.1.2)
theorem Same.rows {H H' : Hp} {d : Addr} {rows : Rws} (e : Same H H') (h : RowsAt H d rows) : RowsAt H' d rows := by
  obtain ⟨as, h1, h2, h3⟩ := h.ex
  exact ⟨as, h1, e _ _ h2, fun p hp => e _ _ (h3 p hp)⟩
theorem valV_get {κ α : Type} [DecidableEq κ] {f : α → κ × V} : ∀ {l : List α} {i : Nat} {a : α}, (l.map fun x => (f x).1).Nodup → l[i]? = some a → valV (l.map f) (f a).1 = some (f a).2
  | [], _, _, _, h => by simp at h
  | x :: l, i, a, hn, h => by
    have ⟨h1, h2⟩ := List.nodup_cons.mp hn
    cases i with
    | zero =>
      obtain rfl := Option.some.inj h
      exact valV_pos rfl
    | succ i =>
      have h' : l[i]? = some a := h
      have ne : ¬ (f x).1 = (f a).1 := fun e => h1 (by
        show (f x).1 ∈ l.map fun x => (f x).1
        rw [e]
        exact List.mem_map_of_mem (f := fun x => (f x).1) (List.mem_of_getElem? h'))
      rw [List.map_cons, valV_neg ne]
      exact valV_get h2 h'
theorem valV_mem {κ α : Type} [DecidableEq κ] {f : α → κ × V} {l : List α} {a : α} (hn : (l.map fun x => (f x).1).Nodup) (h : a ∈ l) : valV (l.map f) (f a).1 = some (f a).2 := by
  obtain ⟨i, hi⟩ := List.mem_iff_getElem?.mp h
  exact valV_get hn hi
theorem valV_not {κ α : Type} [DecidableEq κ] {f : α → κ × V} {k : κ} : ∀ {l : List α}, (∀ x ∈ l, (f x).1 ≠ k) → valV (l.map f) k = none
  | [], _ => rfl
  | x :: l, h => by
    rw [List.map_cons, valV_neg (h x (by simp))]
    exact valV_not fun y hy => h y (List.mem_cons_of_mem _ hy)
theorem inr_nodup {α : Type} {f : α → Str} {l : List α} (h : (l.map f).Nodup) : (l.map fun x => (Sum.inr (f x) : Key)).Nodup := by
  have : (l.map fun x => (Sum.inr (f x) : Key)) = (l.map f).map Sum.inr := by rw [List.map_map]; rfl
  rw [this]
  exact List.Pairwise.map _ (fun a b hab e => hab (Sum.inr.inj e)) h
theorem ty_sql {K : PySem.W.Frag} {H : Hp} {a : Addr} {xs : List V} (h : SqL K H a xs) : TyX K H (.ref a) (.type "list") := by
  rcases h with (h | ⟨o, h⟩) | ⟨o, its, n, h1, h2, _⟩
  · exact .base (.lst h)
  · exact .base (.frz h)
  · exact .kList h1 h2
theorem ty_sqt {K : PySem.W.Frag} {H : Hp} {a : Addr} {xs : List V} (h : SqT K H a xs) : TyX K H (.ref a) (.type "tuple") := by
  rcases h with (h | ⟨o, h⟩) | ⟨o, its, n, h1, h2, _⟩
  · exact .base (.tup h)
  · exact .fTuple h
  · exact .kTuple h1 h2
theorem Same.sql {K : PySem.W.Frag} {H H' : Hp} {a : Addr} {xs : List V} (e : Same H H') (h : SqL K H a xs) : SqL K H' a xs := by
  rcases h with (h | ⟨o, h⟩) | h
  · exact .inl (.inl (e _ _ h))
  · exact .inl (.inr ⟨o, e _ _ h⟩)
  · exact .inr h
theorem Same.seq {K : PySem.W.Frag} {H H' : Hp} {a : Addr} {xs : List V} (e : Same H H') (h : SqL K H a xs ∨ SqT K H a xs) : SqL K H' a xs ∨ SqT K H' a xs := h.imp (Same.sql e) (Same.tup e)
theorem ienumA_var {K : PySem.W.Frag} {H : Hp} {a : Addr} {xs : List V} {i : Nat} {σ : L2.St} {R : It → Hp → Prop} (hv : σ[i]? = some (some (.ref a))) (ha : SqL K H a xs ∨ SqT K H a xs)
    (h : ∀ J G, Walk J xs.length G (YPair (fun i => some (.int (i : Nat))) (fun i => xs[i]?)) → (∀ H', Same H H' → G H') → R J H) : iEnumA K (tCons (tVar i) tNil) σ H R := by
  refine ⟨_, hv, a, xs, rfl, ?_⟩
  rcases ha with ha | ha
  · exact .inl ⟨ha, h _ _ walk_enum fun H' e => Same.sql e ha⟩
  · exact .inr ⟨ha, h _ _ walk_enumT fun H' e => Same.tup e ha⟩
theorem flat_strV (l : List Str) : (l.map V.str).all flatV = true := by
  rw [List.all_map]
  exact List.all_eq_true.mpr fun x _ => rfl
theorem eqV_str (a b : Str) : eqV (.str a) (.str b) = decide (a = b) := by
  show (a == b) = _
  by_cases h : a = b
  · rw [h]
    simp
  · rw [decide_eq_false h]
    simpa using h
theorem inV_str {x : Str} : ∀ {l : List Str}, inV (.str x) (l.map V.str) = decide (x ∈ l)
  | [] => rfl
  | y :: r => by
    have ih := inV_str (x := x) (l := r)
    unfold inV at ih ⊢
    rw [List.map_cons, List.any_cons, ih, eqV_str]
    by_cases h : y = x
    · subst h
      simp
    · by_cases g : x ∈ r
      · simp [h, g]
      · have : ¬ x = y := fun q => h q.symm
        simp [h, g, this]
theorem cut_to {xs : List V} {i : Nat} : cutV xs none (some (i : Int)) = xs.take i := by
  unfold cutV
  rw [HT.sIx_none, HT.sIx_nat, List.drop_zero, Nat.sub_zero]
  by_cases h : i ≤ xs.length
  · rw [Nat.min_eq_left h]
  · rw [Nat.min_eq_right (by omega), List.take_of_length_le (Nat.le_refl _), List.take_of_length_le (by omega)]
theorem get_map_str {l : List Str} {i : Nat} {x : V} (h : (l.map V.str)[i]? = some x) : ∃ c, l[i]? = some c ∧ x = .str c := by
  rw [List.getElem?_map] at h
  cases e : l[i]? with
  | none =>
    rw [e] at h
    cases h
  | some c =>
    rw [e] at h
    exact ⟨c, rfl, (Option.some.inj h).symm⟩
/-- what stands at i is not ahead of i -/
theorem not_ahead {α : Type} {l : List α} {i : Nat} {x : α} (hn : l.Nodup) (h : l[i]? = some x) : x ∉ l.take i := by
  intro q
  obtain ⟨j, hj⟩ := List.mem_iff_getElem?.mp q
  have hji : j < i := by
    have := (List.getElem?_eq_some_iff.mp hj).1
    rw [List.length_take] at this
    omega
  rw [List.getElem?_take_of_lt hji] at hj
  have := (List.getElem?_inj (List.getElem?_eq_some_iff.mp hj).1 hn).mp (hj.trans h.symm)
  omega
section
variable {P : Program} {w : World} {K : PySem.W.Frag} {mg : Str → Option Value} {base : Heap}
/-! ### need_columns -/
def sp_need_columns (K : PySem.W.Frag) : Sp := fun vs H Q _ => ∃ a cols, vs = [.ref a] ∧ (SqL K H a (cols.map V.str) ∨ SqT K H a (cols.map V.str)) ∧ OkCols cols ∧ ∀ H', Same H H' → Q .non H'
theorem sc_need_columns : FnScope ["columns", "k", "column"] ["columns"] (defScope s_need_columns) := ⟨rfl, rfl, rfl, by decide +kernel, rfl, by decide +kernel, by decide +kernel⟩
theorem ok_need_columns (T : Tx K mg) : C8.Cal P w K mg base 2 "need_columns" (sp_need_columns K) [] := by
  refine cal_of T.f_need_columns T.g_need_columns sc_need_columns (fun _ _ _ _ _ _ us hl => match us, hl with | [_], _ => rfl) (fun vs H Q E h => ?_) (fun cdv A outer s H vs Q E hr h => ?_)
  · obtain ⟨a, cols, rfl, _⟩ := h
    rfl
  · obtain ⟨a, cols, rfl, ha, hc, k⟩ := h
    have nd := sc_need_columns.nd
    refine ⟨_, (pss_cons (ps_if (PW.pt (pw_or (pt_not (pt_val (pe_callB call_isiT (by rfl) T.z_isinstance (by decide +kernel) (pa_cons (pv 0) (pa_cons (pe_tup (pa_cons (pe_bltn (v := .ty "list") (u := .type "list") rfl T.z_list (by decide +kernel) rfl) (pa_cons (pe_bltn (v := .ty "tuple") (u := .type "tuple") rfl T.z_tuple (by decide +kernel) rfl) pa_nil))) pa_nil))))) (pw_or1 (pt_not (pt_chain op_le op_le pe_int (pe_callB call_len_seq (by rfl) T.z_len (by decide +kernel) (pa_cons (pv 0) pa_nil)) (C8.pe_gc rfl T.v_MOST_COLUMNS)))))) (pss_one ps_never) pss_nil)
      (pss_one (ps_for PassesOwn.never rfl (pi_enumA rfl T.z_enumerate (pa_cons (pv 0) pa_nil)) (pg_tup (by rfl) (pgs_cons (pg_name (i := 1) nd rfl (Or.inl rfl)) (pgs_cons (pg_name (i := 2) nd rfl (Or.inl rfl)) pgs_nil)))
      (pss_one (ps_if (PW.pt (pw_or (pt_not (pt_val (C8.pe_c (ok_is_name T) hr (by decide) rfl (pa_cons (pv 2) pa_nil)))) (pw_or1 (pt_cmpR op_in_seq (pv 2) (pe_slice (SlR.or sl_list sl_tupA) (pv 0) po_none (po_some (pv 1))) (by rfl))))) (pss_one ps_never) pss_nil))))), ?_⟩
    walk_at "nf"
    have hl : (cols.map V.str).length = cols.length := List.length_map ..
    have k1 : PySem.W.kitAny K (.type "list") [.type "list", .type "tuple"] = some true := by
      unfold PySem.W.kitAny
      rw [kit_ty (r := true) (by decide +kernel)]
    have k2 : PySem.W.kitAny K (.type "tuple") [.type "list", .type "tuple"] = some true := by
      unfold PySem.W.kitAny
      rw [kit_ty (r := false) (by decide +kernel)]
      unfold PySem.W.kitAny
      rw [kit_ty (r := true) (by decide +kernel)]
    have hk : ∀ {H : Hp}, (SqL K H a (cols.map V.str) ∨ SqT K H a (cols.map V.str)) → ∃ t, TyX K H (.ref a) t ∧ PySem.W.kitAny K t [.type "list", .type "tuple"] = some true := by
      rintro H (ha | ha)
      · exact ⟨_, ty_sql ha, k1⟩
      · exact ⟨_, ty_sqt ha, k2⟩
    refine ⟨_, rfl, by decide, fun p hp => ?_⟩
    have e1 : Same H (upd H p (.tup [.ty "list", .ty "tuple"])) := (Same.refl H).new hp
    have ha1 := Same.seq e1 ha
    obtain ⟨t, ht, hk⟩ := hk ha1
    refine ⟨_, p, _, t, _, true, rfl, upd_same, .cons (.ty _) (.cons (.ty _) .nil), ht, hk, ?_⟩
    refine ⟨_, rfl, iteF ⟨_, rfl, a, _, rfl, ha1, _, _, rfl, rfl, _, rfl, ?_⟩⟩
    rw [decide_eq_true (show (1 : Int) ≤ ((cols.map V.str).length : Nat) by rw [hl]; have := hc.pos; omega)]
    refine iteT ⟨_, _, rfl, rfl, _, rfl, ?_⟩
    rw [decide_eq_true (show (((cols.map V.str).length : Nat) : Int) ≤ 3 by rw [hl]; have := hc.le; omega)]
    refine iteF ?_
    refine ienumA_var rfl ha1 fun J G wk hG => ?_
    refine for_it wk (fun i σ H' => ∃ o1 o2, σ = [some (.ref a), o1, o2] ∧ Same (upd H p (.tup [.ty "list", .ty "tuple"])) H') ⟨none, none, rfl, Same.refl _⟩ (fun i σ H' _ ⟨_, _, _, e⟩ => hG H' e) ?_ (fun σ H' ⟨_, _, _, e⟩ => k H' (e1.trans e))
    rintro i x σ H1 H2 hi ⟨o1, o2, rfl, e⟩ ⟨T1, x1, y1, rfl, hT, rfl, hx, hy⟩
    obtain ⟨c, hcx, rfl⟩ := get_map_str hy
    obtain rfl : x1 = V.int (i : Nat) := (Option.some.inj hx).symm
    obtain ⟨n, rfl, hn⟩ := hc.nm c (List.mem_of_getElem? hcx)
    have e2 : Same H1 (upd H1 T1 (.tup [.int (i : Nat), .str (SX.S n)])) := (Same.refl _).new hT
    walk_at "nf"
    refine ⟨T1, _, rfl, SqT.of upd_same, rfl, _, _, rfl, _, _, rfl, rfl, _, rfl, n, rfl, hn, fun H3 e3 => ⟨_, rfl, iteF ⟨_, rfl, _, rfl, _, rfl, ?_⟩⟩⟩
    have ha3 : SqL K H3 a (cols.map V.str) ∨ SqT K H3 a (cols.map V.str) := Same.seq ((e.trans e2).trans e3) ha1
    have hnot : inV (.str (SX.S n)) ((cols.map V.str).take i) = false := by
      rw [← List.map_take, inV_str, decide_eq_false (not_ahead hc.nd hcx)]
    have fin : ∀ p3, H3 p3 = none → ∀ o, (o = HO.lst ((cols.map V.str).take i) ∨ o = HO.tup ((cols.map V.str).take i)) → rIn K false (V.str (SX.S n)) (V.ref p3) (upd H3 p3 o) fun x H4 => ∃ b, x = .bl b ∧ if b = true then tNever { nx := fun σ' H' => ∃ o1 o2, σ' = [some (.ref a), o1, o2] ∧ Same (upd H p (.tup [.ty "list", .ty "tuple"])) H', rt := Q } [some (.ref a), some (.int (i : Nat)), some (.str (SX.S n))] H4 else ∃ o1 o2, [some (.ref a), some (V.int (i : Nat)), some (V.str (SX.S n))] = [some (.ref a), o1, o2] ∧ Same (upd H p (.tup [.ty "list", .ty "tuple"])) H4 := by
      rintro p3 hp3 o ho
      refine ⟨p3, (cols.map V.str).take i, rfl, ?_, rfl, ?_, _, rfl, ?_⟩
      · rcases ho with rfl | rfl
        · exact .inl (SqL.of upd_same)
        · exact .inr (SqT.of upd_same)
      · rw [← List.map_take]
        exact flat_strV _
      · rw [if_neg Bool.false_ne_true, hnot]
        exact iteF ⟨_, _, rfl, (e.trans e2).trans (e3.new hp3)⟩
    rcases ha3 with ha3 | ha3
    · refine ⟨_, rfl, .inl ⟨a, _, rfl, ha3, fun p3 hp3 => ?_⟩⟩
      rw [cut_to]
      exact fin p3 hp3 _ (.inl rfl)
    · refine ⟨_, rfl, .inr ⟨a, _, rfl, ha3, fun hw => ?_, fun hw p3 hp3 => ?_⟩⟩
      · have h2 := hw.2
        rw [HT.sIx_nat] at h2
        omega
      · rw [cut_to]
        exact fin p3 hp3 _ (.inr rfl)
end
end NS
set_option Elab.async false
set_option linter.all false
set_option maxRecDepth 100000
set_option maxHeartbeats 4000000
/-! Rows: their keys, their cells. -/
namespace NS
open PySem PySem.Spec PyProof.Rows L2 He
local macro_rules | `(tactic| walk_at "nf") => `(tactic| dsimp only [L2.tNext, L2.tSeq, L2.tDrop, L2.tRet, L2.tRetN, L2.tIfS, L2.tAsg, L2.gName, L2.gCons, L2.gNil, L2.gTup, L2.tOp, L2.tUn, L2.tTest, L2.tChain, L2.tB, L2.tAnd, L2.tOr, L2.tNot, L2.tAndV, L2.tOrV, L2.tNotV, L2.tIf, L2.tCB, L2.tNil, L2.tCons, L2.tTup, L2.tLst, L2.tFld, L2.sFld, L2.tCall, L2.tMeth, L2.tMake, L2.tBM, L2.tBM0, L2.tM1, L2.tM0, L2.tSl, L2.tPart, L2.tNoPart, L2.tPar, L2.tVar, L2.tC, L2.cxOf, L2.tYes, C8.tCut])
theorem Same.unlock {H H' : Hp} {d : Addr} {u : HO} {od : Obj} (hd : H d = some u) (e : Same (upd H d (.frz od u)) H') : Same H (upd H' d u) := fun b o h => by
  by_cases hb : b = d
  · rw [hb] at h ⊢
    rw [hd] at h
    rw [upd_same]
    exact h
  · rw [upd_ne hb]
    exact e b o (by rw [upd_ne hb]; exact h)
theorem Same.lock {H : Hp} {d : Addr} {u : HO} {od : Obj} {b : Addr} {o : HO} (hb : b ≠ d) (h : H b = some o) : upd H d (.frz od u) b = some o := by rw [upd_ne hb]; exact h
theorem Same.lockT {K : PySem.W.Frag} {H : Hp} {d : Addr} {kvs : List (Key × V)} {od : Obj} {a : Addr} {xs : List V} (hd : H d = some (.dK kvs)) (h : SqT K H a xs) : SqT K (upd H d (.frz od (.dK kvs))) a xs := by
  rcases h with (h | ⟨o, h⟩) | h
  · exact .inl (.inl (Same.lock (fun e => by rw [e, hd] at h; cases h) h))
  · exact .inl (.inr ⟨o, Same.lock (fun e => by rw [e, hd] at h; cases h) h⟩)
  · exact .inr h
/-- the keys of a dict, locked: what a comprehension over them does -/
theorem lc_keys {κs : List (Key × V)} {H : Hp} {d : Addr} {g : TG} {tt : TT} {te : TE} {vs : List Nat} {σ : L2.St} {td : TE} {Qd : VK} (hd : H d = some (.dK κs))
    (htd : ∀ (od : Obj) (F : VK), F (.ref d) (upd H d (.frz od (.dK κs))) → td σ (upd H d (.frz od (.dK κs))) F) (R : Nat → List V → Prop)
    (h0 : R 0 []) (hs : ∀ (od : Obj) (D i : Nat) k v H' acc, D ≠ d → upd H d (.frz od (.dK κs)) D = none → κs[i]? = some (k, v) → Same (upd H d (.frz od (.dK κs))) H' → H' D = some (.lst acc) → acc.length ≤ i → R i acc →
      g (kV k) (wipe σ vs) H' fun σ2 H2 => wipe σ2 vs = wipe σ vs ∧ tt σ2 H2 fun b H3 =>
        if b = true then te σ2 H3 fun y H4 => ∃ acc, H4 D = some (.lst acc) ∧ acc.length < sizeLine ∧ PvL (upd H d (.frz od (.dK κs))) D (fun i acc _ => R i acc) (i + 1) (upd H4 D (.lst (acc ++ [y]))) else PvL (upd H d (.frz od (.dK κs))) D (fun i acc _ => R i acc) (i + 1) H3)
    (hq : ∀ D H' acc, H D = none → Same H H' → H' D = some (.lst acc) → acc.length ≤ κs.length → R κs.length acc → Qd (.ref D) H') : tLockE (tLc (iKeys td) g tt te vs) σ H Qd := by
  refine ⟨d, _, hd, True.intro, fun od => ?_⟩
  unfold L2.tLc L2.iKeys
  refine htd od _ ⟨d, od, rfl, .inl ⟨κs, upd_same, fun D hD => ?_⟩⟩
  have hDd : D ≠ d := fun e => by rw [e, upd_same] at hD; cases hD
  have hDn : H D = none := by rw [upd_ne hDd] at hD; exact hD
  refine lc_it walk_keys (PvL (upd H d (.frz od (.dK κs))) D fun i acc _ => R i acc) ⟨[], upd_same, (Same.refl _).new hD, Nat.zero_le _, h0⟩ (fun i H' _ ⟨_, _, e, _⟩ => e _ _ upd_same) ?_ ?_
  · rintro i x H' H2 hi ⟨acc, hDD, e, hl, r⟩ ⟨e0, k, v, hk, rfl⟩
    rw [e0]
    exact hs od D i k v H' acc hDd hD hk e hDD hl r
  · rintro H' ⟨acc, hDD, e, hl, r⟩
    exact ⟨e _ _ upd_same, hq D _ acc hDn (Same.unlock hd e) (by rw [upd_ne hDd]; exact hDD) hl r⟩
def rLenSeq (K : PySem.W.Frag) : List V → Hp → VK → Prop := fun xs H Q => ∃ p ys, xs = [.ref p] ∧ (SqL K H p ys ∨ SqT K H p ys) ∧ Q (.int ys.length) H
def rListOf (K : PySem.W.Frag) : List V → Hp → VK → Prop := fun xs H Q => ∃ p ys, xs = [.ref p] ∧ (SqL K H p ys ∨ SqT K H p ys) ∧ ∀ l, H l = none → Q (.ref l) (upd H l (.lst ys))
def rTupOf (K : PySem.W.Frag) : List V → Hp → VK → Prop := fun xs H Q => ∃ p ys, xs = [.ref p] ∧ ((SqL K H p ys ∧ ∀ l, H l = none → Q (.ref l) (upd H l (.tup ys))) ∨ (SqT K H p ys ∧ Q (.ref p) H))
/-! ### data -/
structure Shp (n : Nat) (d : PyData) : Prop where
  lay : d.canLay0 = true
  dep : d.depth ≤ n
theorem Shp.ok {n : Nat} {d : PyData} (h : Shp n d) (hn : n ≤ 64) : SeqAt.shaped d = true := by
  show (d.canLay0 && decide (d.depth ≤ 64)) = true
  rw [h.lay, Bool.true_and]
  exact decide_eq_true (Nat.le_trans h.dep hn)
theorem Shp.all {n : Nat} : ∀ {l : List PyData}, (∀ d ∈ l, Shp n d) → PyData.canLayAll0 l = true ∧ PyData.depthAll l ≤ n
  | [], _ => ⟨by simp [PyData.canLayAll0], by simp [PyData.depthAll]⟩
  | x :: r, h => by
    have h1 := h x (by simp)
    have h2 := Shp.all (l := r) fun d hd => h d (List.mem_cons_of_mem _ hd)
    constructor
    · simp only [PyData.canLayAll0, h1.lay, h2.1, Bool.and_self]
    · simp only [PyData.depthAll]
      exact Nat.max_le.mpr ⟨h1.dep, h2.2⟩
theorem Shp.list {n : Nat} {l : List PyData} (h : ∀ d ∈ l, Shp n d) : Shp (n + 1) (.list l) := by
  have := Shp.all h
  exact ⟨by simp only [PyData.canLay0]; exact this.1, by simp only [PyData.depth]; omega⟩
theorem Shp.tuple {n : Nat} {l : List PyData} (h : ∀ d ∈ l, Shp n d) : Shp (n + 1) (.tuple l) := by
  have := Shp.all h
  exact ⟨by simp only [PyData.canLay0]; exact this.1, by simp only [PyData.depth]; omega⟩
theorem Shp.int {n : Nat} (i : Int) : Shp n (.int i) := ⟨by simp [PyData.canLay0], by simp [PyData.depth]⟩
theorem shp_nil : SeqAt.shaped (.list []) = true := (Shp.list (n := 0) (by simp)).ok (by decide)
theorem shp_nilT : SeqAt.shaped (.tuple []) = true := (Shp.tuple (n := 0) (by simp)).ok (by decide)
section
variable {P : Program} {w : World} {K : PySem.W.Frag} {mg : Str → Option Value} {base : Heap}
/-! ### need_keys -/
def sp_need_keys : Sp := fun vs H Q _ => ∃ d rows, vs = [.ref d] ∧ RowsAt H d rows ∧ (∀ r ∈ rows, PlaceS r.1) ∧ rows.length ≤ 20 ∧ ∀ H', Same H H' → Q .non H'
theorem sc_need_keys : FnScope ["rows", "wrong", "key"] ["rows"] (defScope s_need_keys) := ⟨rfl, rfl, rfl, by decide +kernel, rfl, by decide +kernel, by decide +kernel⟩
theorem ok_need_keys (T : Tx K mg) : C8.Cal P w K mg base 3 "need_keys" sp_need_keys [] := by
  refine cal_of T.f_need_keys T.g_need_keys sc_need_keys (fun _ _ _ _ _ _ us hl => match us, hl with | [_], _ => rfl) (fun vs H Q E h => ?_) (fun cdv A outer s H vs Q E hr h => ?_)
  · obtain ⟨a, cols, rfl, _⟩ := h
    rfl
  · obtain ⟨d, rows, rfl, hd, hp, hl, k⟩ := h
    have nd := sc_need_keys.nd
    refine ⟨_, (pss_cons (ps_set (i := 1) nd rfl (Or.inl rfl) (pe_callB cr_sortedS (by rfl) T.z_sorted (by decide +kernel) (pa_cons (pe_lock (pe_lc (own := [("key", 2)]) rfl nd (pi_keys (pv 0)) (blkOk_by (by kernel_rfl)) (fun _ _ _ _ _ => (pg_name (i := 2) nd rfl (Or.inl rfl))) (fun _ _ _ _ _ => (pts_one (pt_not (pt_val (C8.pe_c (ok_is_text T) hr (by decide) rfl (pa_cons (pv 2) pa_nil)))))) (fun _ _ _ _ _ => (pe_callTy SkE.call_str_str (by rfl) T.z_str (by decide +kernel) (pa_cons (pv 2) pa_nil))))) pa_nil)))
      (pss_one (ps_if (pt_cmpR (op_neD hr.units) (pv 1) (pe_lst pa_nil) (nomark _)) (pss_one ps_never) pss_nil))), ?_⟩
    walk_at "nf"
    obtain ⟨as, ha, hdd, hr'⟩ := hd.ex
    have hlen : ((rows.zip as).map fun p => ((Sum.inr p.1.1 : Key), V.ref p.2)).length = rows.length := by rw [List.length_map, List.length_zip, ha, Nat.min_self]
    refine lc_keys hdd (fun od F q => ⟨_, rfl, q⟩) (fun i acc => acc = []) rfl ?_ ?_
    · intro od D i k0 v H' acc hDd hDn hk e hDD hl2 r
      rw [List.getElem?_map] at hk
      obtain ⟨p, hp2, e2⟩ := Option.map_eq_some_iff.mp hk
      obtain ⟨rfl, rfl⟩ := Prod.mk.inj e2
      obtain ⟨ns, hns, hok⟩ := hp p.1 (List.of_mem_zip (List.mem_of_getElem? hp2)).1
      have hns : p.1.1 = txt ns := hns
      rw [hns]
      walk_at "nf"
      refine ⟨rfl, _, rfl, ns, rfl, hok, fun H4 e4 => ?_⟩
      exact ⟨_, rfl, iteF ⟨acc, e4 _ _ hDD, e.trans e4, by omega, r⟩⟩
    · intro D H1 acc hD e hDD _ r
      subst r
      refine ⟨D, [], rfl, SqL.of hDD, by decide, fun ys p hys _ hp1 => ?_⟩
      obtain rfl := List.perm_nil.mp hys
      refine ⟨_, rfl, Nat.zero_le _, fun p2 hp2 => ?_⟩
      have hpp : p2 ≠ p := fun e => by rw [e, upd_same] at hp2; cases hp2
      refine ⟨.list [], .list [], .lst (xs := []) (SqL.of ?_) .nil, .lst (xs := []) (SqL.of upd_same) .nil, shp_nil, shp_nil, _, rfl, ?_⟩
      · rw [upd_ne (Ne.symm hpp), upd_same]
        rfl
      · exact iteF (k _ ((e.new hp1).new hp2))
/-! ### is_cells -/
def sp_is_cells (K : PySem.W.Frag) : Sp := fun vs H Q _ => ∃ ca a cols r, vs = [.ref ca, .ref a] ∧ SqT K H ca (cols.map V.str) ∧ H a = some (cO r) ∧ OkCols cols ∧ OkCells cols r ∧ ∀ H', Same H H' → Q (.bl true) H'
theorem sc_is_cells : FnScope ["columns", "value", "column"] ["columns", "value"] (defScope s_is_cells) := ⟨rfl, rfl, rfl, by decide +kernel, rfl, by decide +kernel, by decide +kernel⟩
theorem ok_is_cells (T : Tx K mg) : C8.Cal P w K mg base 2 "is_cells" (sp_is_cells K) [] := by
  refine cal_of T.f_is_cells T.g_is_cells sc_is_cells (fun _ _ _ _ _ _ us hl => match us, hl with | [_, _], _ => rfl) (fun vs H Q E h => ?_) (fun cdv A outer s H vs Q E hr h => ?_)
  · obtain ⟨ca, a, cols, r, rfl, _⟩ := h
    rfl
  · obtain ⟨ca, a, cols, r, rfl, hca, ha, hc, hr1, k⟩ := h
    have nd := sc_is_cells.nd
    have hu := hu_of hr
    refine ⟨_, (pss_cons (ps_if (PW.pt (pw_or (pt_not (pt_val (pe_callB call_isi (by rfl) T.z_isinstance (by decide +kernel) (pa_cons (pv 1) (pa_cons (pe_bltn (v := .ty "dict") (u := .type "dict") rfl T.z_dict (by decide +kernel) rfl) pa_nil))))) (pw_or1 (pt_cmpR op_eq (pe_callB call_lenD (by rfl) T.z_len (by decide +kernel) (pa_cons (pv 1) pa_nil)) pe_int (nomark _))))) (pss_one (ps_ret pe_bl)) pss_nil)
      (pss_one (ps_ret (pe_callB (cr_all rfl) (by rfl) T.z_all (by decide +kernel) (pa_cons (pe_lock (pe_lc (own := [("column", 2)]) rfl nd (pi_keys (pv 1)) (blkOk_by (by kernel_rfl)) (fun _ _ _ _ _ => (pg_name (i := 2) nd rfl (Or.inl rfl))) (fun _ _ _ _ _ => pts_nil) (fun _ _ _ _ _ => (pe_and (C8.pe_c (ok_is_name T) hr (by decide) rfl (pa_cons (pv 2) pa_nil)) (pe_and (pe_cmpR (show OpR _ (compareOp .In) (rIn K false) from op_in_seq) (pv 2) (pv 0) (by rfl)) (pe_one (C8.pe_c (ok_is_name T) hr (by decide) rfl (pa_cons (pe_dget hu (pv 1) (pv 2) (fun _ _ => rfl)) pa_nil)))))))) pa_nil))))), ?_⟩
    walk_at "nf"
    have hlen : (r.map fun c => ((Sum.inr c.1 : Key), V.str c.2)).length = r.length := List.length_map ..
    have h3 := hr1.len hc
    refine ⟨_, rfl, _, _, _, _, true, rfl, .ty _, .base (.dK ha), kit_ty (by decide +kernel), ?_⟩
    refine ⟨_, rfl, iteF ⟨_, rfl, a, _, rfl, ha, rfl, _, rfl, ?_⟩⟩
    have e0 : decide (V.int ((r.map fun c => ((Sum.inr c.1 : Key), V.str c.2)).length : Nat) = V.int 0) = false := by
      rw [hlen]
      refine decide_eq_false fun e => ?_
      have := V.int.inj e
      have := List.length_pos_iff.mpr hr1.ne
      omega
    rw [e0]
    refine iteF ?_
    refine lc_keys ha (fun od F q => ⟨_, rfl, q⟩) (fun i acc => acc = List.replicate i (V.bl true)) rfl ?_ ?_
    · intro od D i k0 v H' acc hDd hDn hk e hDD hl2 hacc
      rw [List.getElem?_map] at hk
      obtain ⟨c, hc2, e2⟩ := Option.map_eq_some_iff.mp hk
      obtain ⟨rfl, rfl⟩ := Prod.mk.inj e2
      have hcm := List.mem_of_getElem? hc2
      obtain ⟨⟨n, hn, hok⟩, hcol⟩ := hr1.key c hcm
      obtain ⟨m, hm, hokm⟩ := hr1.val c hcm
      have hval : valV (r.map fun c => ((Sum.inr c.1 : Key), V.str c.2)) (Sum.inr c.1) = some (V.str c.2) := valV_mem (f := fun c : Str × Str => ((Sum.inr c.1 : Key), V.str c.2)) (inr_nodup hr1.nd) hcm
      rw [hn] at hcol hval ⊢
      walk_at "nf"
      refine ⟨rfl, iteT ⟨_, rfl, n, rfl, hok, fun H4 e4 => ?_⟩⟩
      have hin : inV (kV (Sum.inr (SX.S n))) (cols.map V.str) = true := by
        show inV (.str (SX.S n)) _ = true
        rw [inV_str]
        exact decide_eq_true hcol
      have hca4 : SqT K H4 ca (cols.map V.str) := Same.tup e4 (Same.tup e (Same.lockT ha hca))
      have ha4 : H4 a = some (.frz od (.dK (r.map fun c => ((Sum.inr c.1 : Key), V.str c.2)))) := e4 _ _ (e _ _ upd_same)
      refine ⟨_, rfl, iteT ⟨_, rfl, _, rfl, ca, _, rfl, .inr hca4, rfl, flat_strV _, _, rfl, ?_⟩⟩
      rw [if_neg Bool.false_ne_true, hin]
      refine iteT ⟨_, rfl, _, rfl, a, _, rfl, .inl ⟨_, _, .inr ⟨_, ha4⟩, rfl, hval.symm⟩, m, by rw [hm]; rfl, hokm, fun H5 e5 => ?_⟩
      refine lc_put hDn (e5 _ _ (e4 _ _ hDD)) ((e.trans e4).trans e5) hl2 ?_ id ?_
      · have := (List.getElem?_eq_some_iff.mp hc2).1
        omega
      · rw [hacc, List.replicate_succ']
    · intro D H1 acc hD e hDD _ hacc
      refine ⟨D, List.replicate (r.map fun c => ((Sum.inr c.1 : Key), V.str c.2)).length true, rfl, SqL.of (by rw [hDD, hacc]; simp), ?_⟩
      have ea : (List.replicate (r.map fun c => ((Sum.inr c.1 : Key), V.str c.2)).length true).all id = true := by simp
      show Q (.bl ((List.replicate (r.map fun c => ((Sum.inr c.1 : Key), V.str c.2)).length true).all id)) H1
      rw [ea]
      exact k H1 e
end
end NS
set_option Elab.async false
set_option linter.all false
set_option maxRecDepth 100000
set_option maxHeartbeats 4000000
/-! Rows joined; tables. -/
namespace NS
open PySem PySem.Spec PyProof.Rows L2 He
local macro_rules | `(tactic| walk_at "nf") => `(tactic| dsimp only [L2.tNext, L2.tSeq, L2.tDrop, L2.tRet, L2.tRetN, L2.tIfS, L2.tAsg, L2.gName, L2.gCons, L2.gNil, L2.gTup, L2.tOp, L2.tUn, L2.tTest, L2.tChain, L2.tB, L2.tAnd, L2.tOr, L2.tNot, L2.tAndV, L2.tOrV, L2.tNotV, L2.tIf, L2.tCB, L2.tNil, L2.tCons, L2.tTup, L2.tLst, L2.tFld, L2.sFld, L2.tCall, L2.tMeth, L2.tMake, L2.tBM, L2.tBM0, L2.tM1, L2.tM0, L2.tSl, L2.tPart, L2.tNoPart, L2.tPar, L2.tVar, L2.tC, L2.cxOf, L2.tYes, C8.tCut])
theorem upd_upd' {H : Hp} {a : Addr} {o o' : HO} : upd (upd H a o) a o' = upd H a o' := by
  funext b
  by_cases h : b = a
  · rw [h, upd_same, upd_same]
  · rw [upd_ne h, upd_ne h, upd_ne h]
theorem RowsAt.opn {H : Hp} {d : Addr} {rows : Rws} (h : RowsAt H d rows) : ∃ kvs : List (Key × V), H d = some (.dK kvs) ∧ kvs.length = rows.length ∧ (kvs.map Prod.fst = rows.map fun r => (Sum.inr r.1 : Key)) ∧
    ∀ (i : Nat) (k : Key) (v : V), kvs[i]? = some (k, v) → ∃ (r : Str × Cells) (a : Addr), rows[i]? = some r ∧ k = .inr r.1 ∧ v = .ref a ∧ H a = some (cO r.2) := by
  obtain ⟨as, h1, h2, h3⟩ := h.ex
  refine ⟨_, h2, by rw [List.length_map, List.length_zip, h1, Nat.min_self], ?_, fun i k v hi => ?_⟩
  · rw [List.map_map]
    have e : (rows.zip as).map Prod.fst = rows := List.map_fst_zip (by omega)
    conv => rhs; rw [← e, List.map_map]
    rfl
  · rw [List.getElem?_map] at hi
    obtain ⟨p, hp, e⟩ := Option.map_eq_some_iff.mp hi
    obtain ⟨rfl, rfl⟩ := Prod.mk.inj e
    obtain ⟨q1, q2⟩ := List.getElem?_zip_eq_some.mp hp
    exact ⟨p.1, p.2, q1, rfl, rfl, h3 p (List.mem_of_getElem? hp)⟩
theorem RowsAt.mk' {H : Hp} {d : Addr} {rows : Rws} {kvs : List (Key × V)} (h : H d = some (.dK kvs)) (hl : kvs.length = rows.length)
    (hr : ∀ (i : Nat) (k : Key) (v : V), kvs[i]? = some (k, v) → ∃ (r : Str × Cells) (a : Addr), rows[i]? = some r ∧ k = .inr r.1 ∧ v = .ref a ∧ H a = some (cO r.2)) : RowsAt H d rows := by
  let f : V → Addr := fun v => match v with | .ref a => a | _ => d
  have hz : (rows.zip (kvs.map fun q => f q.2)).map (fun p => ((Sum.inr p.1.1 : Key), V.ref p.2)) = kvs := by
    refine List.ext_getElem? fun i => ?_
    rw [List.getElem?_map]
    cases e : kvs[i]? with
    | none =>
      have : kvs.length ≤ i := List.getElem?_eq_none_iff.mp e
      rw [List.getElem?_eq_none (by rw [List.length_zip, List.length_map]; omega)]
      rfl
    | some q =>
      obtain ⟨k, v⟩ := q
      obtain ⟨r, a, h1, rfl, rfl, h2⟩ := hr i k v e
      have : (rows.zip (kvs.map fun q => f q.2))[i]? = some (r, a) := by
        rw [List.getElem?_zip_eq_some]
        refine ⟨h1, ?_⟩
        rw [List.getElem?_map, e]
        rfl
      rw [this]
      rfl
  refine ⟨kvs.map fun q => f q.2, by rw [List.length_map, hl], by rw [hz]; exact h, fun p hp => ?_⟩
  obtain ⟨i, hi⟩ := List.mem_iff_getElem?.mp hp
  obtain ⟨q1, q2⟩ := List.getElem?_zip_eq_some.mp hi
  rw [List.getElem?_map] at q2
  obtain ⟨kv, hkv, e⟩ := Option.map_eq_some_iff.mp q2
  obtain ⟨k, v⟩ := kv
  obtain ⟨r, a, h1, rfl, rfl, h2⟩ := hr i k v hkv
  have e1 : r = p.1 := Option.some.inj (h1.symm.trans q1)
  have e2 : a = p.2 := e
  rw [← e1, ← e2]
  exact h2
theorem RowsAt.get {H : Hp} {d : Addr} {rows : Rws} {kvs : List (Key × V)} (h : RowsAt H d rows) (hd : H d = some (.dK kvs)) (hn : (rows.map Prod.fst).Nodup) {r : Str × Cells} (hr : r ∈ rows) : ∃ a, valV kvs (.inr r.1) = some (.ref a) ∧ H a = some (cO r.2) := by
  obtain ⟨kvs', h1, h2, h3, h4⟩ := h.opn
  obtain rfl : kvs' = kvs := HO.dK.inj (Option.some.inj (h1.symm.trans hd))
  obtain ⟨i, hi⟩ := List.mem_iff_getElem?.mp hr
  have hil : i < kvs'.length := by rw [h2]; exact (List.getElem?_eq_some_iff.mp hi).1
  obtain ⟨r', a, q1, q2, q3, q4⟩ := h4 i _ _ (List.getElem?_eq_getElem hil)
  obtain rfl : r' = r := Option.some.inj (q1.symm.trans hi)
  refine ⟨a, ?_, q4⟩
  have nd : (kvs'.map fun x => (id x).1).Nodup := by
    show (kvs'.map Prod.fst).Nodup
    rw [h3]
    exact inr_nodup hn
  have := valV_mem (f := id) nd (List.getElem_mem hil)
  rw [List.map_id] at this
  show valV kvs' (Sum.inr r'.1) = _
  rw [← q2, ← q3]
  exact this
theorem RowsAt.non {H : Hp} {d : Addr} {rows : Rws} {kvs : List (Key × V)} (h : RowsAt H d rows) (hd : H d = some (.dK kvs)) {t : Str} (ht : t ∉ rows.map Prod.fst) : valV kvs (.inr t) = none := by
  obtain ⟨kvs', h1, h2, h3, h4⟩ := h.opn
  obtain rfl : kvs' = kvs := HO.dK.inj (Option.some.inj (h1.symm.trans hd))
  have := valV_not (f := (id : Key × V → Key × V)) (k := (Sum.inr t : Key)) (l := kvs') fun x hx e => ht (by
    have hm : x.1 ∈ kvs'.map Prod.fst := List.mem_map_of_mem hx
    rw [h3] at hm
    obtain ⟨r, hr, er⟩ := List.mem_map.mp hm
    have e : x.1 = Sum.inr t := e
    rw [e] at er
    rw [← Sum.inr.inj er]
    exact List.mem_map_of_mem hr)
  rw [List.map_id] at this
  exact this
theorem RowsAt.snoc {H : Hp} {d q : Addr} {rows : Rws} {r : Str × Cells} {kvs : List (Key × V)} (h : RowsAt H d rows) (hd : H d = some (.dK kvs)) (hq : H q = some (cO r.2)) (hne : r.2 ≠ []) (hnr : ∀ x ∈ rows, x.2 ≠ []) :
    RowsAt (upd H d (.dK (kvs ++ [(.inr r.1, .ref q)]))) d (rows ++ [r]) := by
  obtain ⟨kvs', h1, h2, h3, h4⟩ := h.opn
  obtain rfl : kvs' = kvs := HO.dK.inj (Option.some.inj (h1.symm.trans hd))
  have apart : ∀ (a : Addr) (c : Cells), c ≠ [] → H a = some (cO c) → a ≠ d := by
    intro a c hc ha e
    rw [e, hd] at ha
    have e2 : kvs' = c.map fun c => ((Sum.inr c.1 : Key), V.str c.2) := HO.dK.inj (Option.some.inj ha)
    cases c with
    | nil => exact hc rfl
    | cons x l =>
      obtain ⟨_, _, _, _, q3, _⟩ := h4 0 (.inr x.1) (.str x.2) (by rw [e2]; rfl)
      cases q3
  refine RowsAt.mk' upd_same (by rw [List.length_append, List.length_append, h2]; rfl) fun i k v hi => ?_
  by_cases hlt : i < kvs'.length
  · rw [List.getElem?_append_left hlt] at hi
    obtain ⟨r', a, q1, q2, q3, q4⟩ := h4 i k v hi
    refine ⟨r', a, by rw [List.getElem?_append_left (by omega)]; exact q1, q2, q3, ?_⟩
    rw [upd_ne (apart a _ (hnr _ (List.mem_of_getElem? q1)) q4)]
    exact q4
  · rw [List.getElem?_append_right (by omega)] at hi
    have hz : i - kvs'.length = 0 := by
      have := (List.getElem?_eq_some_iff.mp hi).1
      simp only [List.length_singleton] at this
      omega
    rw [hz] at hi
    have hi := Option.some.inj hi
    obtain ⟨rfl, rfl⟩ := Prod.mk.inj hi
    refine ⟨r, q, ?_, rfl, rfl, ?_⟩
    · rw [List.getElem?_append_right (by omega), ← h2, hz]
      rfl
    · rw [upd_ne (apart q _ hne hq)]
      exact hq
section
variable {P : Program} {w : World} {K : PySem.W.Frag} {mg : Str → Option Value} {base : Heap}
theorem keys_take {rows : Rws} {i : Nat} {r : Str × Cells} (h : rows[i]? = some r) : (rows.map Prod.fst).take (i + 1) = (rows.map Prod.fst).take i ++ [r.1] := take_snoc (by rw [List.getElem?_map, h]; rfl)
/-! ### joined_rows -/
def sp_joined_rows (K : PySem.W.Frag) : Sp := fun vs H Q _ => ∃ ca pa d cols rows, vs = [.ref ca, .ref pa, .ref d] ∧ SqT K H ca (cols.map V.str) ∧ H pa = some (.dK []) ∧ RowsAt H d rows ∧ OkCols cols ∧ OkRows cols rows ∧
  ∀ H' p, Same H H' → H p = none → RowsAt H' p rows → Q (.ref p) H'
theorem sc_joined_rows : FnScope ["columns", "present", "rows", "fresh", "text", "found", "key"] ["columns", "present", "rows"] (defScope s_joined_rows) := ⟨rfl, rfl, rfl, by decide +kernel, rfl, by decide +kernel, by decide +kernel⟩
theorem ok_joined_rows (T : Tx K mg) : C8.Cal P w K mg base 4 "joined_rows" (sp_joined_rows K) [] := by
  refine cal_of T.f_joined_rows T.g_joined_rows sc_joined_rows (fun _ _ _ _ _ _ us hl => match us, hl with | [_, _, _], _ => rfl) (fun vs H Q E h => ?_) (fun cdv A outer s H vs Q E hr h => ?_)
  · obtain ⟨ca, pa, d, cols, rows, rfl, _⟩ := h
    rfl
  · obtain ⟨ca, pa, d, cols, rows, rfl, hca, hpa, hd, hc, ho, k⟩ := h
    have nd := sc_joined_rows.nd
    have hu := hu_of hr
    refine ⟨_, (pss_cons (ps_expr (C8.pe_c (ok_need_keys T) hr (by decide) rfl (pa_cons (pv 2) pa_nil)))
      (pss_cons (ps_set (i := 3) nd rfl (Or.inl rfl) pe_dnewK)
      (pss_cons (ps_for PassesOwn.never rfl (pi_list (pe_callB cr_sortedS (by rfl) T.z_sorted (by decide +kernel) (pa_cons (pe_lock (pe_lc (own := [("key", 6)]) rfl nd (pi_keys (pv 2)) (blkOk_by (by kernel_rfl)) (fun _ _ _ _ _ => (pg_name (i := 6) nd rfl (Or.inl rfl))) (fun _ _ _ _ _ => pts_nil) (fun _ _ _ _ _ => (pe_callTy SkE.call_str_str (by rfl) T.z_str (by decide +kernel) (pa_cons (pv 6) pa_nil))))) pa_nil))) (pg_name (i := 4) nd rfl (Or.inl rfl))
      (pss_cons (ps_if (pt_not (pt_val (C8.pe_c (ok_is_cells T) hr (by decide) rfl (pa_cons (pv 0) (pa_cons (pe_dget hu (pv 2) (pv 4) (fun _ _ => rfl)) pa_nil))))) (pss_one ps_never) pss_nil)
      (pss_one (ps_dput hu (pv 3) (pv 4) (pe_callTy call_dictD (by rfl) T.z_dict (by decide +kernel) (pa_cons (pe_dget hu (pv 2) (pv 4) (fun _ _ => rfl)) pa_nil)) rfl))))
      (pss_cons (ps_set (i := 5) nd rfl (Or.inl rfl) (pe_starstar (pv 1) (pv 3)))
      (pss_cons (ps_if (pt_cmpR op_gt (pe_callB call_lenD (by rfl) T.z_len (by decide +kernel) (pa_cons (pv 5) pa_nil)) (C8.pe_gc rfl T.v_MOST_ROWS) (nomark _)) (pss_one ps_never) pss_nil)
      (pss_one (ps_ret (pv 5)))))))), ?_⟩
    walk_at "nf"
    refine ⟨_, rfl, d, rows, rfl, hd, ho.key, ho.le, fun H1 e1 => ?_⟩
    intro f hf
    have e2 : Same H (upd H1 f (.dK [])) := e1.new hf
    obtain ⟨kvs, hkd, hkl, hkm, hkr⟩ := (Same.rows e2 hd).opn
    refine lc_keys hkd (fun od F q => ⟨_, rfl, q⟩) (fun i acc => acc = ((rows.map Prod.fst).take i).map V.str) rfl ?_ ?_
    · intro od D i k0 v H' acc hDd hDn hk e hDD hl2 hacc
      obtain ⟨r, a, hr1, rfl, rfl, _⟩ := hkr i k0 v hk
      walk_at "nf"
      refine ⟨rfl, _, rfl, _, rfl, lc_put hDn hDD e hl2 ?_ id ?_⟩
      · have := (List.getElem?_eq_some_iff.mp hk).1
        have := ho.le
        omega
      · rw [hacc, keys_take hr1, List.map_append]
        rfl
    · intro D H2 acc hD e hDD _ hacc
      have hkl2 : (rows.map Prod.fst).take kvs.length = rows.map Prod.fst := List.take_of_length_le (by rw [List.length_map]; omega)
      rw [hkl2] at hacc
      have hlk : (rows.map Prod.fst).length ≤ 20 := by rw [List.length_map]; exact ho.le
      refine ⟨D, _, rfl, SqL.of (by rw [hDD, hacc]), by omega, fun ys p hys hst hp => ?_⟩
      obtain rfl : ys = rows.map Prod.fst := (sorted_usrt hys hst ho.nd).trans (usrt_self ho.asc)
      have nfp : f ≠ p := fun e0 => by
        have h1 := e _ _ (upd_same (H := H1) (a := f))
        rw [e0, hp] at h1
        cases h1
      have hH : H f = none := e1.free hf
      have hHp : H p = none := (e2.trans e).free hp
      refine ⟨p, rfl, ⟨_, SqL.of upd_same⟩, ?_⟩
      refine for_it (walk_list (xs := (rows.map Prod.fst).map V.str)) (fun i σ H' => ∃ o4, σ = [some (.ref ca), some (.ref pa), some (.ref d), some (.ref f), o4, none, none] ∧ Same H H' ∧ RowsAt H' f (rows.take i) ∧ H' p = some (.lst ((rows.map Prod.fst).map V.str)))
        ⟨none, rfl, (e2.trans e).new hp, RowsAt.mk' (kvs := []) ((upd_ne nfp).trans (e _ _ upd_same)) rfl (fun i k v h => by simp at h), upd_same⟩ (fun i σ H' _ ⟨_, _, _, _, hl⟩ => SqL.of hl) ?_ ?_
      · rintro i x σ H0 H3 hi ⟨o4, rfl, e3, hrow, hl3⟩ ⟨rfl, hx⟩
        obtain ⟨t, ht, rfl⟩ := get_map_str hx
        rw [List.getElem?_map] at ht
        obtain ⟨r, hr1, rfl⟩ := Option.map_eq_some_iff.mp ht
        have hrm := List.mem_of_getElem? hr1
        have dget : ∀ {H5 : Hp}, Same H H5 → ∃ kv a, H5 d = some (.dK kv) ∧ valV kv (.inr r.1) = some (.ref a) ∧ H5 a = some (cO r.2) := fun {H5} e5 => by
          obtain ⟨kv, h1, _⟩ := (Same.rows e5 hd).opn
          obtain ⟨a, h2, h3⟩ := (Same.rows e5 hd).get h1 ho.nd hrm
          exact ⟨kv, a, h1, h2, h3⟩
        obtain ⟨kv, a, h1, h2, h3⟩ := dget e3
        walk_at "nf"
        refine ⟨_, rfl, _, rfl, _, rfl, d, _, rfl, .inl ⟨kv, .inr r.1, .inl h1, rfl, h2.symm⟩, ?_⟩
        refine ⟨ca, a, cols, r.2, rfl, Same.tup e3 hca, h3, hc, ho.row r hrm, fun H5 e5 => ⟨_, rfl, iteF ?_⟩⟩
        obtain ⟨kv', a', h1', h2', h3'⟩ := dget (e3.trans e5)
        refine ⟨_, rfl, _, rfl, d, _, rfl, .inl ⟨kv', .inr r.1, .inl h1', rfl, h2'.symm⟩, a', _, rfl, .inl h3', fun q hq => ?_⟩
        have e6 : Same H3 (upd H5 q (cO r.2)) := e5.new hq
        have hrow6 := Same.rows e6 hrow
        obtain ⟨kf, hf1, hf2, _⟩ := hrow6.opn
        have htl : (rows.take i).length ≤ 20 := Nat.le_trans (by rw [List.length_take]; exact Nat.min_le_right _ _) ho.le
        have hnone : valV kf (.inr r.1) = none := hrow6.non hf1 (by
          rw [List.map_take]
          exact not_ahead ho.nd (by rw [List.getElem?_map, hr1]; rfl))
        refine ⟨_, rfl, _, rfl, f, _, rfl, DPut.k (k := Sum.inr r.1) hf1 (lt_size (by omega)), ?_⟩
        rw [putK_new _ hnone]
        refine ⟨_, rfl, (e3.trans e6).mut hH, ?_, ?_⟩
        · rw [take_snoc hr1]
          exact hrow6.snoc hf1 upd_same (ho.row r hrm).ne fun x hx => (ho.row x (List.mem_of_mem_take hx)).ne
        · rw [upd_ne (Ne.symm nfp)]
          exact e6 _ _ hl3
      · rintro σ H3 ⟨o4, rfl, e3, hrow, hl3⟩
        have ek : rows.take ((rows.map Prod.fst).map V.str).length = rows := List.take_of_length_le (by rw [List.length_map, List.length_map]; exact Nat.le_refl _)
        rw [ek] at hrow
        obtain ⟨kf, hf1, hf2, hf3, hf4⟩ := hrow.opn
        walk_at "nf"
        intro q hq
        have hpa3 := e3 _ _ hpa
        have npq : pa ≠ q := ne_of_none hpa3 hq
        have nfq : f ≠ q := ne_of_none hf1 hq
        refine ⟨_, rfl, pa, rfl, upd_same, (upd_ne npq).trans hpa3, npq, _, rfl, f, kf, rfl, nfq, upd_same, (upd_ne nfq).trans hf1, _, rfl, q, kf, rfl, upd_same, _, _, rfl, rfl, _, rfl, ?_⟩
        rw [decide_eq_false (show ¬ ((40 : Int) < (kf.length : Nat)) by have := ho.le; omega)]
        refine iteF ⟨_, rfl, k _ q ?_ (e3.free hq) ?_⟩
        · rw [upd_upd']
          exact e3.new hq
        · refine RowsAt.mk' upd_same hf2 fun i k v hi => ?_
          obtain ⟨r, a, q1, q2, q3, q4⟩ := hf4 i k v hi
          exact ⟨r, a, q1, q2, q3, by rw [upd_upd', upd_ne (ne_of_none q4 hq)]; exact q4⟩
end
end NS
set_option Elab.async false
set_option linter.all false
set_option maxRecDepth 100000
set_option maxHeartbeats 4000000
/-! Tables: made, asked. -/
namespace NS
open PySem PySem.Spec PyProof.Rows L2 He
local macro_rules | `(tactic| walk_at "nf") => `(tactic| dsimp only [L2.tNext, L2.tSeq, L2.tDrop, L2.tRet, L2.tRetN, L2.tIfS, L2.tAsg, L2.gName, L2.gCons, L2.gNil, L2.gTup, L2.tOp, L2.tUn, L2.tTest, L2.tChain, L2.tB, L2.tAnd, L2.tOr, L2.tNot, L2.tAndV, L2.tOrV, L2.tNotV, L2.tIf, L2.tCB, L2.tNil, L2.tCons, L2.tTup, L2.tLst, L2.tFld, L2.sFld, L2.tCall, L2.tMeth, L2.tMake, L2.tBM, L2.tBM0, L2.tM1, L2.tM0, L2.tSl, L2.tPart, L2.tNoPart, L2.tPar, L2.tVar, L2.tC, L2.cxOf, L2.tYes, C8.tCut])
theorem But.trans {t : Addr} {H H' H'' : Hp} (h : But t H H') (g : But t H' H'') : But t H H'' := fun b o hb e => g b o hb (h b o hb e)
theorem But.put {t : Addr} {H : Hp} {o : HO} : But t H (upd H t o) := fun b u hb e => by rw [upd_ne hb]; exact e
theorem But.rows {t C dx : Addr} {fs : List (Str × V)} {H H' : Hp} {d : Addr} {rows : Rws} (e : But t H H') (ht : H t = some (.ins C dx fs)) (h : RowsAt H d rows) : RowsAt H' d rows := by
  obtain ⟨as, h1, h2, h3⟩ := h.ex
  exact ⟨as, h1, e _ _ (fun z => by rw [z, ht] at h2; cases h2) h2, fun p hp => e _ _ (fun z => by have := h3 p hp; rw [z, ht] at this; cases this) (h3 p hp)⟩
theorem But.sqt {K : PySem.W.Frag} {t C dx : Addr} {fs : List (Str × V)} {H H' : Hp} {a : Addr} {xs : List V} (e : But t H H') (ht : H t = some (.ins C dx fs)) (h : SqT K H a xs) : SqT K H' a xs := by
  rcases h with (h | ⟨o, h⟩) | h
  · exact .inl (.inl (e _ _ (fun z => by rw [z, ht] at h; cases h) h))
  · exact .inl (.inr ⟨o, e _ _ (fun z => by rw [z, ht] at h; cases h) h⟩)
  · exact .inr h
theorem But.sql {K : PySem.W.Frag} {t C dx : Addr} {fs : List (Str × V)} {H H' : Hp} {a : Addr} {xs : List V} (e : But t H H') (ht : H t = some (.ins C dx fs)) (h : SqL K H a xs) : SqL K H' a xs := by
  rcases h with (h | ⟨o, h⟩) | h
  · exact .inl (.inl (e _ _ (fun z => by rw [z, ht] at h; cases h) h))
  · exact .inl (.inr ⟨o, e _ _ (fun z => by rw [z, ht] at h; cases h) h⟩)
  · exact .inr h
/-- behind a making: all that stood stands -/
theorem made_same {H H2 : Hp} {x dx : Addr} {o o' : HO} (hx : H x = none) (hdx : H dx = none) (e : But x (upd (upd H dx o) x o') H2) : Same H H2 := fun b u h => by
  have h1 : b ≠ x := ne_of_none h hx
  have h2 : b ≠ dx := ne_of_none h hdx
  exact e b u h1 (by rw [upd_ne h1, upd_ne h2]; exact h)
structure TableAt (K : PySem.W.Frag) (H : Hp) (t : Addr) (cols : List Str) (rows : Rws) : Prop where
  ex : ∃ dx ct rd, H t = some (.ins (ga K "Table") dx [("columns", .ref ct), ("row_of", .ref rd)]) ∧ SqT K H ct (cols.map V.str) ∧ RowsAt H rd rows
theorem Same.table {K : PySem.W.Frag} {H H' : Hp} {t : Addr} {cols : List Str} {rows : Rws} (e : Same H H') (h : TableAt K H t cols rows) : TableAt K H' t cols rows := by
  obtain ⟨dx, ct, rd, h1, h2, h3⟩ := h.ex
  exact ⟨dx, ct, rd, e _ _ h1, Same.tup e h2, Same.rows e h3⟩
section
variable {P : Program} {w : World} {K : PySem.W.Frag} {mg : Str → Option Value} {base : Heap}
def sp_Table_init (K : PySem.W.Frag) : Sp := fun vs H Q _ => ∃ t dx ca d cols rows, vs = [.ref t, .ref ca, .ref d] ∧ H t = some (.ins (ga K "Table") dx []) ∧ (SqL K H ca (cols.map V.str) ∨ SqT K H ca (cols.map V.str)) ∧ RowsAt H d rows ∧ OkCols cols ∧ OkRows cols rows ∧
  ∀ H', But t H H' → TableAt K H' t cols rows → Q .non H'
theorem sc_Table_init : FnScope ["self", "columns", "rows"] ["self", "columns", "rows"] (defScope sTable_init) := ⟨rfl, rfl, rfl, by decide +kernel, rfl, by decide +kernel, by decide +kernel⟩
theorem ok_Table_init (T : Tx K mg) : C8.Mak P w K mg base 5 "Table" (ga K "Table") (sp_Table_init K) [] := by
  obtain ⟨fd, F⟩ := T.f_Table_init
  obtain ⟨ds, hds, hb⟩ := F.binds1 (ps := ["self", "columns", "rows"]) 3 1 (by simp) rfl (fun T kV doc pm an cdv ct us its h1 h2 => by
    match us, h1, its, h2 with
    | [_, _, _], _, [_], _ => exact ⟨_, rfl, rfl⟩)
  · cases hds
    refine ⟨_, _, _, _, T.mk_Table, fnd_ok F sc_Table_init (fun vs H Q E h => ?_) (fun cdv A outer s H vs Q E hr h => ?_), T.g_Table, hb, .nil⟩
    · obtain ⟨t, dx, ca, d, cols, rows, rfl, _⟩ := h
      rfl
    · obtain ⟨t, dx, ca, d, cols, rows, rfl, ht, hca, hd, hc, ho, k⟩ := h
      have nd := sc_Table_init.nd
      refine ⟨_, (pss_cons (ps_expr (C8.pe_c (ok_need_columns T) hr (by decide) rfl (pa_cons (pv 1) pa_nil)))
      (C8.pss_cut (ps_fld (pv 0) (pe_callTy call_tuple_of (by rfl) T.z_tuple (by decide +kernel) (pa_cons (pv 1) pa_nil)) rfl)
      (pss_cons (ps_fld (pv 0) pe_dnewK rfl)
      (pss_one (ps_if (pt_cmpR op_notN (pv 2) pe_non (nomark _)) (pss_one (ps_fld (pv 0) (C8.pe_c (ok_joined_rows T) hr (by decide) rfl (pa_cons (pe_fld (pv 0) rfl) (pa_cons pe_dnewK (pa_cons (pv 2) pa_nil)))) rfl)) pss_nil))))), ?_⟩
      walk_at "nf"
      refine ⟨_, rfl, ca, cols, rfl, hca, hc, fun H1 e1 => ?_⟩
      have hca1 := Same.seq e1 hca
      have ht1 := e1 _ _ ht
      refine ⟨fun σ H2 => ∃ ct, σ = [some (.ref t), some (.ref ca), some (.ref d)] ∧ But t H H2 ∧ H2 t = some (.ins (ga K "Table") dx [("columns", .ref ct)]) ∧ SqT K H2 ct (cols.map V.str) ∧ RowsAt H2 d rows, ?_, ?_⟩
      · refine ⟨_, rfl, ca, cols.map V.str, rfl, ?_⟩
        rcases hca1 with hca1 | hca1
        · refine .inl ⟨hca1, fun l hl => ?_⟩
          have nlt : t ≠ l := ne_of_none ht1 hl
          have e2 : But t H (upd (upd H1 l (.tup (cols.map V.str))) t (.ins (ga K "Table") dx [("columns", .ref l)])) := (Same.but (e1.new hl)).trans But.put
          exact ⟨_, rfl, t, _, dx, [], rfl, (upd_ne nlt).trans ht1, T.cl_Table, T.n_Table_columns, by decide, l, rfl, e2, upd_same, SqT.of (by rw [upd_ne (Ne.symm nlt)]; exact upd_same), e2.rows ht hd⟩
        · have e2 : But t H (upd H1 t (.ins (ga K "Table") dx [("columns", .ref ca)])) := (Same.but e1).trans But.put
          exact .inr ⟨hca1, _, rfl, t, _, dx, [], rfl, ht1, T.cl_Table, T.n_Table_columns, by decide, ca, rfl, e2, upd_same, But.sqt But.put ht1 hca1, e2.rows ht hd⟩
      · rintro σ H2 ⟨ct, rfl, e2, ht2, hct, hd2⟩
        intro p2 hp2
        have nt2 : t ≠ p2 := ne_of_none ht2 hp2
        refine ⟨_, rfl, t, _, dx, _, rfl, (upd_ne nt2).trans ht2, T.cl_Table, T.n_Table_row_of, (by show 1 < 1000; decide), ?_⟩
        have ef : ∀ y, putF ("row_of" : Str) y [(("columns" : Str), V.ref ct)] = [(("columns" : Str), V.ref ct), (("row_of" : Str), y)] := fun y => by
          unfold putF
          rw [if_neg (by decide +kernel)]
          rfl
        rw [ef]
        have e3 : But t H2 (upd (upd H2 p2 (.dK [])) t (.ins (ga K "Table") dx [("columns", .ref ct), ("row_of", .ref p2)])) := (Same.but ((Same.refl _).new hp2)).trans But.put
        have ht3 : (upd (upd H2 p2 (.dK [])) t (.ins (ga K "Table") dx [("columns", .ref ct), ("row_of", .ref p2)])) t = some (.ins (ga K "Table") dx [("columns", .ref ct), ("row_of", .ref p2)]) := upd_same
        generalize upd (upd H2 p2 (.dK [])) t (.ins (ga K "Table") dx [("columns", .ref ct), ("row_of", .ref p2)]) = H3 at e3 ht3 ⊢
        have hct3 := e3.sqt ht2 hct
        have hd3 := e3.rows ht2 hd2
        refine ⟨_, rfl, rfl, _, rfl, iteT ⟨_, rfl, t, _, dx, _, _, rfl, ht3, T.cl_Table, T.n_Table_columns, by rfl, fun p4 hp4 => ?_⟩⟩
        have e4 : Same H3 (upd H3 p4 (.dK [])) := (Same.refl _).new hp4
        refine ⟨_, rfl, ct, p4, d, cols, rows, rfl, Same.tup e4 hct3, upd_same, Same.rows e4 hd3, hc, ho, fun H5 rd e5 hrd hrows => ?_⟩
        have ht5 := e5 _ _ (e4 _ _ ht3)
        have ef2 : ∀ y, putF ("row_of" : Str) y [(("columns" : Str), V.ref ct), (("row_of" : Str), V.ref p2)] = [(("columns" : Str), V.ref ct), (("row_of" : Str), y)] := fun y => by
          unfold putF
          rw [if_neg (by decide +kernel)]
          unfold putF
          rw [if_pos rfl]
        refine ⟨_, rfl, t, _, dx, _, rfl, ht5, T.cl_Table, T.n_Table_row_of, (by show 2 < 1000; decide), ?_⟩
        rw [ef2]
        have e6 : But t H5 (upd H5 t (.ins (ga K "Table") dx [("columns", .ref ct), ("row_of", .ref rd)])) := But.put
        refine k _ ((((e2.trans e3).trans (Same.but e4)).trans (Same.but e5)).trans e6) ⟨dx, ct, rd, upd_same, e6.sqt ht5 (Same.tup e5 (Same.tup e4 hct3)), e6.rows ht5 hrows⟩
/-- Table(a, b) -/
theorem go_Table {K : PySem.W.Frag} {H : Hp} {a d : Addr} {cols : List Str} {rows : Rws} {Q : VK} {E : XK} (ha : SqL K H a (cols.map V.str) ∨ SqT K H a (cols.map V.str)) (hd : RowsAt H d rows) (hc : OkCols cols) (ho : OkRows cols rows)
    (k : ∀ H' t, Same H H' → H t = none → TableAt K H' t cols rows → Q (.ref t) H') (x dx : Addr) (hx : H x = none) (hdx : H dx = none) (hne : dx ≠ x) :
    sp_Table_init K [.ref x, .ref a, .ref d] (upd (upd H dx (.own x)) x (.ins (ga K "Table") dx [])) (fun v H2 => v = .non ∧ Q (.ref x) H2) E := by
  have e : Same H (upd (upd H dx (.own x)) x (.ins (ga K "Table") dx [])) := ((Same.refl _).new hdx).new (by rw [upd_ne (Ne.symm hne)]; exact hx)
  exact ⟨x, dx, a, d, cols, rows, rfl, upd_same, Same.seq e ha, Same.rows e hd, hc, ho, fun H' eb ht => ⟨rfl, k H' x (made_same hx hdx eb) hx ht⟩⟩
/-! ### the methods -/
def sp_Table_copy (K : PySem.W.Frag) : Sp := fun vs H Q _ => ∃ t cols rows, vs = [.ref t] ∧ TableAt K H t cols rows ∧ OkCols cols ∧ OkRows cols rows ∧ ∀ H' u, Same H H' → H u = none → TableAt K H' u cols rows → Q (.ref u) H'
theorem sc_Table_copy : FnScope ["self"] ["self"] (defScope sTable_copy) := ⟨rfl, rfl, rfl, by decide +kernel, rfl, by decide +kernel, by decide +kernel⟩
theorem ok_Table_copy (T : Tx K mg) : C8.Met P w K mg base 7 (ga K "Table") "copy" (sp_Table_copy K) [] := by
  refine met_of T.cl_Table T.m_Table_copy T.f_Table_copy sc_Table_copy (fun _ _ _ _ _ _ us hl => match us, hl with | [_], _ => rfl) (fun vs H Q E h => ?_) (fun cdv A outer s H vs Q E hr h => ?_)
  · obtain ⟨t, cols, rows, rfl, _⟩ := h
    rfl
  · obtain ⟨t, cols, rows, rfl, ht, hc, ho, k⟩ := h
    have nd := sc_Table_copy.nd
    refine ⟨_, (pss_one (ps_ret (C8.pe_mk (ok_Table_init T) hr (by decide) rfl (pa_cons (pe_fld (pv 0) rfl) (pa_cons (pe_fld (pv 0) rfl) pa_nil))))), ?_⟩
    obtain ⟨dx, ct, rd, h1, h2, h3⟩ := ht.ex
    walk_at "nf"
    exact ⟨_, rfl, t, _, dx, _, _, rfl, h1, T.cl_Table, T.n_Table_columns, by rfl, _, rfl, t, _, dx, _, _, rfl, h1, T.cl_Table, T.n_Table_row_of, by rfl, go_Table (.inr h2) h3 hc ho k⟩
def sp_Table_len (K : PySem.W.Frag) : Sp := fun vs H Q _ => ∃ t cols rows, vs = [.ref t] ∧ TableAt K H t cols rows ∧ Q (.int rows.length) H
theorem sc_Table_len : FnScope ["self"] ["self"] (defScope sTable_len) := ⟨rfl, rfl, rfl, by decide +kernel, rfl, by decide +kernel, by decide +kernel⟩
theorem ok_Table_len (T : Tx K mg) : C8.Met P w K mg base 1 (ga K "Table") "__len__" (sp_Table_len K) [] := by
  refine met_of T.cl_Table T.m_Table_len T.f_Table_len sc_Table_len (fun _ _ _ _ _ _ us hl => match us, hl with | [_], _ => rfl) (fun vs H Q E h => ?_) (fun cdv A outer s H vs Q E hr h => ?_)
  · obtain ⟨t, cols, rows, rfl, _⟩ := h
    rfl
  · obtain ⟨t, cols, rows, rfl, ht, k⟩ := h
    have nd := sc_Table_len.nd
    refine ⟨_, (pss_one (ps_ret (pe_callB call_lenD (by rfl) T.z_len (by decide +kernel) (pa_cons (pe_fld (pv 0) rfl) pa_nil)))), ?_⟩
    obtain ⟨dx, ct, rd, h1, h2, h3⟩ := ht.ex
    obtain ⟨kvs, q1, q2, _⟩ := h3.opn
    walk_at "nf"
    refine ⟨_, rfl, t, _, dx, _, _, rfl, h1, T.cl_Table, T.n_Table_row_of, by rfl, rd, kvs, rfl, q1, ?_⟩
    rw [q2]
    exact k
def sp_Table_contains (K : PySem.W.Frag) : Sp := fun vs H Q _ => ∃ t x cols rows, vs = [.ref t, .str x] ∧ TableAt K H t cols rows ∧ OkRows cols rows ∧ Q (.bl (decide (x ∈ rows.map Prod.fst))) H
theorem sc_Table_contains : FnScope ["self", "x"] ["self", "x"] (defScope sTable_contains) := ⟨rfl, rfl, rfl, by decide +kernel, rfl, by decide +kernel, by decide +kernel⟩
theorem ok_Table_contains (T : Tx K mg) : C8.Met P w K mg base 1 (ga K "Table") "__contains__" (sp_Table_contains K) [] := by
  refine met_of T.cl_Table T.m_Table_contains T.f_Table_contains sc_Table_contains (fun _ _ _ _ _ _ us hl => match us, hl with | [_, _], _ => rfl) (fun vs H Q E h => ?_) (fun cdv A outer s H vs Q E hr h => ?_)
  · obtain ⟨t, x, cols, rows, rfl, _⟩ := h
    rfl
  · obtain ⟨t, x, cols, rows, rfl, ht, ho, k⟩ := h
    have nd := sc_Table_contains.nd
    have hu := hu_of hr
    refine ⟨_, (pss_cons (ps_if (pt_val (pe_callB call_isi (by rfl) T.z_isinstance (by decide +kernel) (pa_cons (pv 1) (pa_cons (pe_glob (v := .ref (ga K "Place")) rfl T.g_Place rfl) pa_nil)))) (pss_one (ps_ret (pe_never))) pss_nil)
      (pss_one (ps_ret (pe_and (pe_callB call_isi (by rfl) T.z_isinstance (by decide +kernel) (pa_cons (pv 1) (pa_cons (pe_bltn (v := .ty "str") (u := .type "str") rfl T.z_str (by decide +kernel) rfl) pa_nil))) (pe_one (pe_cmp (pc_din hu (pv 1) (pe_fld (pv 0) rfl)) rfl)))))), ?_⟩
    obtain ⟨dx, ct, rd, h1, h2, h3⟩ := ht.ex
    obtain ⟨kvs, q1, q2, _⟩ := h3.opn
    walk_at "nf"
    refine ⟨_, rfl, q_isi_strP T ⟨_, rfl, iteF ⟨_, rfl, q_isi_str ⟨_, rfl, iteT ⟨_, rfl, _, rfl, t, _, dx, _, _, rfl, h1, T.cl_Table, T.n_Table_row_of, by rfl, rd, valV kvs (.inr x), rfl, .inl ⟨kvs, _, .inl q1, rfl, rfl⟩, ?_⟩⟩⟩⟩⟩
    by_cases hx : x ∈ rows.map Prod.fst
    · obtain ⟨r, hr1, rfl⟩ := List.mem_map.mp hx
      obtain ⟨a, g1, _⟩ := h3.get q1 ho.nd hr1
      rw [g1]
      rw [decide_eq_true hx] at k
      exact k
    · rw [h3.non q1 hx]
      rw [decide_eq_false hx] at k
      exact k
def sp_Table_getitem (K : PySem.W.Frag) : Sp := fun vs H Q _ => ∃ t cols rows, ∃ r : Str × Cells, vs = [.ref t, .str r.1] ∧ TableAt K H t cols rows ∧ OkRows cols rows ∧ r ∈ rows ∧ ∀ H' p, Same H H' → H p = none → H' p = some (cO r.2) → Q (.ref p) H'
theorem sc_Table_getitem : FnScope ["self", "at", "text"] ["self", "at"] (defScope sTable_getitem) := ⟨rfl, rfl, rfl, by decide +kernel, rfl, by decide +kernel, by decide +kernel⟩
theorem ok_Table_getitem (T : Tx K mg) : C8.Met P w K mg base 5 (ga K "Table") "__getitem__" (sp_Table_getitem K) [] := by
  refine met_of T.cl_Table T.m_Table_getitem T.f_Table_getitem sc_Table_getitem (fun _ _ _ _ _ _ us hl => match us, hl with | [_, _], _ => rfl) (fun vs H Q E h => ?_) (fun cdv A outer s H vs Q E hr h => ?_)
  · obtain ⟨t, cols, rows, r, rfl, _⟩ := h
    rfl
  · obtain ⟨t, cols, rows, r, rfl, ht, ho, hr1, k⟩ := h
    have nd := sc_Table_getitem.nd
    have hu := hu_of hr
    refine ⟨_, (pss_cons (ps_set (i := 2) nd rfl (Or.inl rfl) (C8.pe_c (ok_text_at T) hr (by decide) rfl (pa_cons (pv 1) pa_nil)))
      (pss_cons (ps_if (pt_cmp (pc_dnotin hu (pv 2) (pe_fld (pv 0) rfl))) (pss_one ps_never) pss_nil)
      (pss_one (ps_ret (pe_callTy call_dictD (by rfl) T.z_dict (by decide +kernel) (pa_cons (pe_dget hu (pe_fld (pv 0) rfl) (pv 2) (fun _ _ => rfl)) pa_nil)))))), ?_⟩
    obtain ⟨ns, hns, hok⟩ := ho.key r hr1
    walk_at "nf"
    refine ⟨_, rfl, ns, by rw [hns]; rfl, hok, fun H1 e1 => ?_⟩
    obtain ⟨dx, ct, rd, h1, h2, h3⟩ := (Same.table e1 ht).ex
    obtain ⟨kvs, q1, q2, _⟩ := h3.opn
    obtain ⟨a, g1, g2⟩ := h3.get q1 ho.nd hr1
    rw [hns] at g1
    have fld : ∀ {F : V → Prop}, F (.ref rd) → ∃ a C dx fs v, V.ref t = .ref a ∧ H1 a = some (.ins C dx fs) ∧ Cls K C ∧ NoAttr K C "row_of" ∧ fs.lookup ("row_of" : Str) = some v ∧ F v := fun f => ⟨t, _, dx, _, _, rfl, h1, T.cl_Table, T.n_Table_row_of, by rfl, f⟩
    refine ⟨_, rfl, _, rfl, fld ⟨rd, _, rfl, .inl ⟨kvs, _, .inl q1, rfl, g1.symm⟩, _, rfl, iteF ⟨_, rfl, fld ⟨_, rfl, rd, _, rfl, .inl ⟨kvs, _, .inl q1, rfl, g1.symm⟩, a, _, rfl, .inl g2, fun p hp => ?_⟩⟩⟩⟩
    exact k _ p (e1.new hp) (e1.free hp) upd_same
end
end NS
set_option Elab.async false
set_option linter.all false
set_option maxRecDepth 100000
set_option maxHeartbeats 4000000
/-! The places of a table, steps, texts above, kinds. -/
namespace NS
open PySem PySem.Spec PyProof.Rows L2 He
local macro_rules | `(tactic| walk_at "nf") => `(tactic| dsimp only [L2.tNext, L2.tSeq, L2.tDrop, L2.tRet, L2.tRetN, L2.tIfS, L2.tAsg, L2.gName, L2.gCons, L2.gNil, L2.gTup, L2.tOp, L2.tUn, L2.tTest, L2.tChain, L2.tB, L2.tAnd, L2.tOr, L2.tNot, L2.tAndV, L2.tOrV, L2.tNotV, L2.tIf, L2.tCB, L2.tNil, L2.tCons, L2.tTup, L2.tLst, L2.tFld, L2.sFld, L2.tCall, L2.tMeth, L2.tMake, L2.tBM, L2.tBM0, L2.tM1, L2.tM0, L2.tSl, L2.tPart, L2.tNoPart, L2.tPar, L2.tVar, L2.tC, L2.cxOf, L2.tYes, C8.tCut])
/-! ### the text above -/
theorem rfind_slash (a b : List Nat) (hb : 47 ∉ b) : Txt.rfind (SX.S (a ++ 47 :: b)) (SX.S [47]) = (a.length : Int) := by
  have key : ∀ i, StrLaws.At (SX.S (a ++ 47 :: b)) (SX.S [47]) (SX.S (a ++ 47 :: b)).length i ↔ (a ++ 47 :: b)[i]? = some 47 := fun i => StrLaws.subAt_one (SX.S (a ++ 47 :: b)) 47 i
  have h0 : (a ++ 47 :: b)[a.length]? = some 47 := by simp
  unfold Txt.rfind
  rcases StrLaws.last_spec (SX.S (a ++ 47 :: b)) (SX.S [47]) with ⟨h1, h2⟩ | ⟨i, h1, h2, h3⟩
  · exact absurd ((key _).mpr h0) (h2 _)
  · rw [h1]
    have h2' := (key i).mp h2
    have hle : a.length ≤ i := by
      rcases Nat.lt_or_ge i a.length with q | q
      · exact absurd ((key _).mpr h0) (h3 _ q)
      · exact q
    have hi : i = a.length := by
      rcases Nat.eq_or_lt_of_le hle with q | q
      · exact q.symm
      · exfalso
        rw [List.getElem?_append_right hle] at h2'
        obtain ⟨k, hk⟩ : ∃ k, i - a.length = k + 1 := ⟨i - a.length - 1, by omega⟩
        rw [hk] at h2'
        exact hb (List.mem_of_getElem? (l := b) (i := k) h2')
    rw [hi]
theorem join_snoc (n : List Nat) : ∀ (r : List (List Nat)), r ≠ [] → TL.joinL [47] (r ++ [n]) = TL.joinL [47] r ++ 47 :: n
  | [], h => absurd rfl h
  | [q], _ => by
    show q ++ ([47] ++ n) = q ++ 47 :: n
    rfl
  | q :: q2 :: r, _ => by
    have ih := join_snoc n (q2 :: r) (by simp)
    show q ++ ([47] ++ TL.joinL [47] (q2 :: r ++ [n])) = q ++ ([47] ++ TL.joinL [47] (q2 :: r)) ++ 47 :: n
    rw [ih]
    simp
/-- the codes ahead of the last name's slash -/
def headC (ns : List (List Nat)) : List Nat := if ns = [] then [] else pc ns
theorem pc_snoc (r : List (List Nat)) (n : List Nat) : pc (r ++ [n]) = headC r ++ 47 :: n := by
  unfold headC
  by_cases h : r = []
  · rw [if_pos h, h]
    rfl
  · rw [if_neg h]
    unfold pc
    rw [join_snoc n r h]
    rfl
theorem cut_last {r : List (List Nat)} {n : List Nat} (hn : 47 ∉ n) : Txt.slice (txt (r ++ [n])) none (some (Txt.rfind (txt (r ++ [n])) ("/" : Str))) = SX.S (headC r) := by
  rw [slash_eq]
  show Txt.slice (SX.S (pc (r ++ [n]))) none (some (Txt.rfind (SX.S (pc (r ++ [n]))) (SX.S [47]))) = _
  rw [pc_snoc, rfind_slash _ _ hn, SX.slice_to (by omega), Int.toNat_natCast, List.take_left]
theorem snoc_of {α : Type} : ∀ {l : List α}, l ≠ [] → ∃ r x, l = r ++ [x]
  | [], h => absurd rfl h
  | [x], _ => ⟨[], x, rfl⟩
  | x :: y :: l, _ => by
    obtain ⟨r, z, e⟩ := snoc_of (l := y :: l) (by simp)
    exact ⟨x :: r, z, by rw [e]; rfl⟩
/-- the value of the place above -/
def upV (ns : List (List Nat)) : V := if ns = [] then .non else .str (txt ns.dropLast)
theorem headC_ne {r : List (List Nat)} : (SX.S (headC r) = ("" : Str)) ↔ r = [] := by
  rw [empty_eq]
  unfold headC
  by_cases h : r = []
  · rw [if_pos h]
    simp [h]
  · rw [if_neg h]
    constructor
    · intro e
      have e2 : pc r = [] := SX.S_inj e
      exact absurd e2 (by unfold pc; simp)
    · exact fun e => absurd e h
theorem txt_of_head {r : List (List Nat)} (h : r ≠ []) : SX.S (headC r) = txt r := by
  unfold headC
  rw [if_neg h]
  rfl
section
variable {P : Program} {w : World} {K : PySem.W.Frag} {mg : Str → Option Value} {base : Heap}
def sp_up : Sp := fun vs H Q _ => ∃ ns, vs = [.str (txt ns)] ∧ OkP ns ∧ Q (upV ns) H
theorem sc_text_above : FnScope ["text"] ["text"] (defScope s_text_above) := ⟨rfl, rfl, rfl, by decide +kernel, rfl, by decide +kernel, by decide +kernel⟩
theorem ok_text_above (T : Tx K mg) : C8.Cal P w K mg base 1 "text_above" sp_up [] := by
  refine cal_of T.f_text_above T.g_text_above sc_text_above (fun _ _ _ _ _ _ us hl => match us, hl with | [_], _ => rfl) (fun vs H Q E h => ?_) (fun cdv A outer s H vs Q E hr h => ?_)
  · obtain ⟨ns, rfl, _⟩ := h
    rfl
  · obtain ⟨ns, rfl, hp, k⟩ := h
    have nd := sc_text_above.nd
    refine ⟨_, (pss_cons (ps_if (pt_cmpR op_eq (pv 0) pe_str (nomark _)) (pss_one (ps_ret pe_non)) pss_nil)
      (pss_one (ps_ret (pe_orT (pe_slice C8.sl_txt (pv 0) po_none (po_some (pe_bm PySem.F.plainAttrs_str PySem.F.slot_str_rfind PySem.F.type_str_rfind mt_rfind (pv 0) (pa_cons pe_str pa_nil)))) (pe_one pe_str))))), ?_⟩
    walk_at "nf"
    have hs := txt_ne hp.ok
    refine ⟨_, rfl, rfl, _, rfl, ?_⟩
    by_cases h0 : ns = []
    · rw [decide_eq_true (show V.str (txt ns) = V.str ("/" : Str) by rw [hs.mpr h0])]
      unfold upV at k
      rw [if_pos h0] at k
      exact iteT k
    · have hne : ¬ V.str (txt ns) = V.str ("/" : Str) := fun e => h0 (hs.mp (V.str.inj e))
      rw [decide_eq_false hne]
      unfold upV at k
      rw [if_neg h0] at k
      obtain ⟨r, n, rfl⟩ := snoc_of h0
      rw [List.dropLast_concat] at k
      have hn := (hp.ok n (by simp)).no
      refine iteF ?_
      have hlen : (txt (r ++ [n])).length ≤ sizeLine := le_size (by have := txt_len hp; omega)
      have ecut := cut_last (r := r) hn
      refine ⟨_, rfl, _, rfl, rfl, _, _, rfl, rfl, _, rfl, _, rfl, hlen, ?_⟩
      rw [ecut]
      by_cases hr0 : r = []
      · subst hr0
        refine ⟨false, ⟨Nat.zero_le _, rfl⟩, iteF ?_⟩
        rw [slash_eq]
        exact k
      · rw [txt_of_head hr0]
        have hl2 : (txt r).length = (pc r).length := SX.S_len _
        refine ⟨true, ⟨?_, ?_⟩, iteT k⟩
        · rw [hl2]
          have h1 := txt_len hp
          have h2 : (txt (r ++ [n])).length = (pc (r ++ [n])).length := SX.S_len _
          rw [h2, pc_snoc, List.length_append] at h1
          unfold headC at h1
          rw [if_neg hr0] at h1
          exact le_size (by omega)
        · rw [hl2]
          unfold pc
          rw [List.length_cons]
          refine (bne_iff_ne.mpr ?_).symm
          omega
theorem sc_law_up : FnScope ["_law_place", "_law_found"] ["_law_place"] (defScope s_law_up) := ⟨rfl, rfl, rfl, by decide +kernel, rfl, by decide +kernel, by decide +kernel⟩
theorem ok_law_up (T : Tx K mg) : C8.Cal P w K mg base 1 "_law_up" sp_up [] := by
  refine cal_of T.f_law_up T.g_law_up sc_law_up (fun _ _ _ _ _ _ us hl => match us, hl with | [_], _ => rfl) (fun vs H Q E h => ?_) (fun cdv A outer s H vs Q E hr h => ?_)
  · obtain ⟨ns, rfl, _⟩ := h
    rfl
  · obtain ⟨ns, rfl, hp, k⟩ := h
    have nd := sc_law_up.nd
    refine ⟨_, (pss_cons (ps_if (pt_cmpR op_eq (pv 0) pe_str (nomark _)) (pss_one (ps_ret pe_non)) pss_nil)
      (pss_cons (ps_set (i := 1) nd rfl (Or.inl rfl) (pe_slice C8.sl_txt (pv 0) po_none (po_some (pe_bm PySem.F.plainAttrs_str PySem.F.slot_str_rfind PySem.F.type_str_rfind mt_rfind (pv 0) (pa_cons pe_str pa_nil)))))
      (pss_one (ps_ret (pe_ifExp (pt_cmpR op_ne (pv 1) pe_str (nomark _)) (pv 1) pe_str))))), ?_⟩
    walk_at "nf"
    have hs := txt_ne hp.ok
    refine ⟨_, rfl, rfl, _, rfl, ?_⟩
    by_cases h0 : ns = []
    · rw [decide_eq_true (show V.str (txt ns) = V.str ("/" : Str) by rw [hs.mpr h0])]
      unfold upV at k
      rw [if_pos h0] at k
      exact iteT k
    · have hne : ¬ V.str (txt ns) = V.str ("/" : Str) := fun e => h0 (hs.mp (V.str.inj e))
      rw [decide_eq_false hne]
      unfold upV at k
      rw [if_neg h0] at k
      obtain ⟨r, n, rfl⟩ := snoc_of h0
      rw [List.dropLast_concat] at k
      have hn := (hp.ok n (by simp)).no
      refine iteF ?_
      have hlen : (txt (r ++ [n])).length ≤ sizeLine := le_size (by have := txt_len hp; omega)
      have ecut := cut_last (r := r) hn
      refine ⟨_, rfl, _, rfl, rfl, _, _, rfl, rfl, _, rfl, _, rfl, hlen, ?_⟩
      rw [ecut]
      have hc := headC_ne (r := r)
      refine ⟨_, rfl, rfl, _, rfl, ?_⟩
      by_cases hr0 : r = []
      · rw [decide_eq_true (show V.str (SX.S (headC r)) = V.str ("" : Str) by rw [hc.mpr hr0])]
        subst hr0
        refine iteF ?_
        rw [slash_eq]
        exact k
      · rw [decide_eq_false (fun e => hr0 (hc.mp (V.str.inj e)))]
        refine iteT ⟨_, rfl, ?_⟩
        rw [txt_of_head hr0]
        exact k
end
end NS
set_option Elab.async false
set_option linter.all false
set_option maxRecDepth 100000
set_option maxHeartbeats 4000000
/-! Kinds, changed columns, steps. -/
namespace NS
open PySem PySem.Spec PyProof.Rows L2 He
local macro_rules | `(tactic| walk_at "nf") => `(tactic| dsimp only [L2.tNext, L2.tSeq, L2.tDrop, L2.tRet, L2.tRetN, L2.tIfS, L2.tAsg, L2.gName, L2.gCons, L2.gNil, L2.gTup, L2.tOp, L2.tUn, L2.tTest, L2.tChain, L2.tB, L2.tAnd, L2.tOr, L2.tNot, L2.tAndV, L2.tOrV, L2.tNotV, L2.tIf, L2.tCB, L2.tNil, L2.tCons, L2.tTup, L2.tLst, L2.tFld, L2.sFld, L2.tCall, L2.tMeth, L2.tMake, L2.tBM, L2.tBM0, L2.tM1, L2.tM0, L2.tSl, L2.tPart, L2.tNoPart, L2.tPar, L2.tVar, L2.tC, L2.cxOf, L2.tYes, C8.tCut])
/-! ### the mirror -/
def rowOf (rows : Rws) (p : Str) : Cells := ((rows.find? fun r => decide (r.1 = p)).map (·.2)).getD []
def cell (r : Cells) (c : Str) : Option Str := (r.find? fun x => decide (x.1 = c)).map (·.2)
def optV : Option Str → V
  | none => .non
  | some s => .str s
def kOf : Option Str → Option Str → Option Str
  | none, none => none
  | none, some _ => some "new"
  | some _, none => some "old"
  | some a, some b => if a = b then some "kept" else some "turned"
def chg (cols : List Str) (r1 r2 : Cells) : List Str := cols.filter fun c => decide (cell r1 c ≠ cell r2 c)
def wordOf (r1 r2 : Cells) : Str := if r1 = [] then "put" else if r2 = [] then "take" else "edit"
def gainW (w : Str) : Int := if w = "put" then 1 else if w = "take" then -1 else 0
theorem cell_val (r : Cells) (c : Str) : valV (r.map fun c => ((Sum.inr c.1 : Key), V.str c.2)) (Sum.inr c) = (cell r c).map V.str := by
  unfold cell
  induction r with
  | nil => rfl
  | cons x r ih =>
    by_cases h : x.1 = c
    · rw [List.map_cons, valV_pos (by rw [h]), List.find?_cons_of_pos (by simpa using h)]
      rfl
    · rw [List.map_cons, valV_neg (fun e => h (Sum.inr.inj e)), List.find?_cons_of_neg (by simpa using h)]
      exact ih
theorem rowOf_mem {rows : Rws} (hn : (rows.map Prod.fst).Nodup) {r : Str × Cells} (h : r ∈ rows) : rowOf rows r.1 = r.2 := by
  unfold rowOf
  induction rows with
  | nil => cases h
  | cons x l ih =>
    obtain ⟨h1, h2⟩ := List.nodup_cons.mp hn
    rcases List.mem_cons.mp h with rfl | h
    · rw [List.find?_cons_of_pos (by simp)]
      rfl
    · have hne : ¬ x.1 = r.1 := fun e => h1 (by
        show x.1 ∈ l.map Prod.fst
        rw [e]
        exact List.mem_map_of_mem h)
      rw [List.find?_cons_of_neg (by simpa using hne)]
      exact ih h2 h
theorem rowOf_not {rows : Rws} {p : Str} (h : p ∉ rows.map Prod.fst) : rowOf rows p = [] := by
  unfold rowOf
  have : rows.find? (fun r => decide (r.1 = p)) = none := List.find?_eq_none.mpr fun x hx e => h (by
    rw [← of_decide_eq_true e]
    exact List.mem_map_of_mem hx)
  rw [this]
  rfl
/-! ### a dict against the empty one -/
def rEqEmp (neg : Bool) : R2 := fun x y H Q => ∃ a b ks, x = .ref a ∧ y = .ref b ∧ H a = some (.dK ks) ∧ H b = some (.dK []) ∧ Q (.bl (if neg then !ks.isEmpty else ks.isEmpty)) H
section
variable {X : Cx}
theorem op_eq_emp (hu : X.A.units + 1 < cLine) : OpR X (compareOp .Eq) (rEqEmp false) := by
  intro pins s σ H x y v u Q I rx ry h
  obtain ⟨a, b, ks, rfl, rfl, ea, eb, q⟩ := h
  obtain rfl : v = Value.ref a := rx
  obtain rfl : u = Value.ref b := ry
  obtain ⟨_, ya, va, ra, da⟩ := (show ObjOk X.prog X.w H s.heap a (.dK ks) from I.hok a _ ea)
  obtain ⟨_, yb, vb, rb, db⟩ := (show ObjOk X.prog X.w H s.heap b (.dK []) from I.hok b _ eb)
  cases rb
  refine PySem.W.keq_eq (knd := mixKind X.prog X.w) (r := true) ya yb da db (by omega) (fun hl => ?_) (fin_bl I q ?_)
  · have : va = [] := List.length_eq_zero_iff.mp hl
    subst this
    cases ra
    exact hits_all (kvs := []) .nil .nil (fun p hp => by cases hp)
  · cases ra <;> rfl
theorem op_ne_emp (hu : X.A.units + 1 < cLine) : OpR X (compareOp .NotEq) (rEqEmp true) := by
  intro pins s σ H x y v u Q I rx ry h
  obtain ⟨a, b, ks, rfl, rfl, ea, eb, q⟩ := h
  obtain rfl : v = Value.ref a := rx
  obtain rfl : u = Value.ref b := ry
  obtain ⟨_, ya, va, ra, da⟩ := (show ObjOk X.prog X.w H s.heap a (.dK ks) from I.hok a _ ea)
  obtain ⟨_, yb, vb, rb, db⟩ := (show ObjOk X.prog X.w H s.heap b (.dK []) from I.hok b _ eb)
  cases rb
  refine PySem.W.keq_ne (knd := mixKind X.prog X.w) (r := true) ya yb da db (by omega) (fun hl => ?_) (fin_bl I q ?_)
  · have : va = [] := List.length_eq_zero_iff.mp hl
    subst this
    cases ra
    exact hits_all (kvs := []) .nil .nil (fun p hp => by cases hp)
  · cases ra <;> rfl
end
section
variable {P : Program} {w : World} {K : PySem.W.Frag} {mg : Str → Option Value} {base : Heap}
/-! ### the places of a table -/
def sp_Table_places (K : PySem.W.Frag) : Sp := fun vs H Q _ => ∃ t cols rows, vs = [.ref t] ∧ TableAt K H t cols rows ∧ OkRows cols rows ∧ ∀ H' p, Same H H' → H p = none → H' p = some (.tup ((rows.map Prod.fst).map V.str)) → Q (.ref p) H'
theorem sc_Table_places : FnScope ["self", "text"] ["self"] (defScope sTable_places) := ⟨rfl, rfl, rfl, by decide +kernel, rfl, by decide +kernel, by decide +kernel⟩
theorem ok_Table_places (T : Tx K mg) : Prp P w K mg base 1 (ga K "Table") "places" (sp_Table_places K) := by
  obtain ⟨fd, F⟩ := T.f_places
  refine ⟨_, _, fd, ["self"], [], T.cl_Table, T.p_places, fnd_ok F sc_Table_places (fun vs H Q E h => ?_) (fun cdv A outer s H vs Q E hr h => ?_), F.bindsN (fun _ _ _ _ _ _ us hl => match us, hl with | [_], _ => rfl), .nil⟩
  · obtain ⟨t, cols, rows, rfl, _⟩ := h
    rfl
  · obtain ⟨t, cols, rows, rfl, ht, ho, k⟩ := h
    have nd := sc_Table_places.nd
    refine ⟨_, (pss_one (ps_ret (pe_callTy call_tuple_of (by rfl) T.z_tuple (by decide +kernel) (pa_cons (pe_callB cr_sortedS (by rfl) T.z_sorted (by decide +kernel) (pa_cons (pe_lock (pe_lc (own := [("text", 1)]) rfl nd (pi_keys (pe_fld (pv 0) rfl)) (blkOk_by (by kernel_rfl)) (fun _ _ _ _ _ => (pg_name (i := 1) nd rfl (Or.inl rfl))) (fun _ _ _ _ _ => pts_nil) (fun _ _ _ _ _ => (pe_callTy SkE.call_str_str (by rfl) T.z_str (by decide +kernel) (pa_cons (pv 1) pa_nil))))) pa_nil)) pa_nil)))), ?_⟩
    obtain ⟨dx, ct, rd, h1, h2, h3⟩ := ht.ex
    obtain ⟨kvs, hkd, hkl, hkm, hkr⟩ := h3.opn
    walk_at "nf"
    refine lc_keys hkd (fun od F q => ⟨_, rfl, t, _, dx, _, _, rfl, Same.lock (fun e => by rw [e, hkd] at h1; cases h1) h1, T.cl_Table, T.n_Table_row_of, by rfl, q⟩) (fun i acc => acc = ((rows.map Prod.fst).take i).map V.str) rfl ?_ ?_
    · intro od D i k0 v H' acc hDd hDn hk e hDD hl2 hacc
      obtain ⟨r, a, hr1, rfl, rfl, _⟩ := hkr i k0 v hk
      walk_at "nf"
      refine ⟨rfl, _, rfl, _, rfl, lc_put hDn hDD e hl2 ?_ id ?_⟩
      · have := (List.getElem?_eq_some_iff.mp hk).1
        have := ho.le
        omega
      · rw [hacc, keys_take hr1, List.map_append]
        rfl
    · intro D H2 acc hD e hDD _ hacc
      have hkl2 : (rows.map Prod.fst).take kvs.length = rows.map Prod.fst := List.take_of_length_le (by rw [List.length_map]; omega)
      rw [hkl2] at hacc
      have hlk : (rows.map Prod.fst).length ≤ 20 := by rw [List.length_map]; exact ho.le
      refine ⟨D, _, rfl, SqL.of (by rw [hDD, hacc]), by omega, fun ys p hys hst hp => ?_⟩
      obtain rfl : ys = rows.map Prod.fst := (sorted_usrt hys hst ho.nd).trans (usrt_self ho.asc)
      refine ⟨p, (rows.map Prod.fst).map V.str, rfl, .inl ⟨SqL.of upd_same, fun q hq => ?_⟩⟩
      have e2 := (e.new (o := .lst ((rows.map Prod.fst).map V.str)) hp)
      exact k _ q (e2.new hq) (e2.free hq) upd_same
/-! ### kind_of -/
def sp_kind_of : Sp := fun vs H Q _ => ∃ a b, vs = [optV a, optV b] ∧ Q (optV (kOf a b)) H
theorem sc_kind_of : FnScope ["one", "two"] ["one", "two"] (defScope s_kind_of) := ⟨rfl, rfl, rfl, by decide +kernel, rfl, by decide +kernel, by decide +kernel⟩
theorem ok_kind_of (T : Tx K mg) : C8.Cal P w K mg base 1 "kind_of" sp_kind_of [] := by
  refine cal_of T.f_kind_of T.g_kind_of sc_kind_of (fun _ _ _ _ _ _ us hl => match us, hl with | [_, _], _ => rfl) (fun vs H Q E h => ?_) (fun cdv A outer s H vs Q E hr h => ?_)
  · obtain ⟨a, b, rfl, _⟩ := h
    rfl
  · obtain ⟨a, b, rfl, k⟩ := h
    have nd := sc_kind_of.nd
    refine ⟨_, (pss_cons (ps_if (pt_cmpR op_isN (pv 0) pe_non (nomark _)) (pss_one (ps_ret (pe_ifExp (pt_cmpR op_isN (pv 1) pe_non (nomark _)) pe_non (C8.pe_gc rfl T.v_NEW)))) pss_nil)
      (pss_cons (ps_if (pt_cmpR op_isN (pv 1) pe_non (nomark _)) (pss_one (ps_ret (C8.pe_gc rfl T.v_OLD))) pss_nil)
      (pss_one (ps_ret (pe_ifExp (pt_cmpR op_eq (pv 0) (pv 1) (nomark _)) (C8.pe_gc rfl T.v_KEPT) (C8.pe_gc rfl T.v_TURNED)))))), ?_⟩
    walk_at "nf"
    cases a with
    | none =>
      cases b with
      | none => exact ⟨_, rfl, rfl, _, rfl, iteT ⟨_, rfl, rfl, _, rfl, iteT k⟩⟩
      | some y => exact ⟨_, rfl, rfl, _, rfl, iteT ⟨_, rfl, rfl, _, rfl, iteF k⟩⟩
    | some x =>
      cases b with
      | none => exact ⟨_, rfl, rfl, _, rfl, iteF ⟨_, rfl, rfl, _, rfl, iteT k⟩⟩
      | some y =>
        refine ⟨_, rfl, rfl, _, rfl, iteF ⟨_, rfl, rfl, _, rfl, iteF ⟨_, rfl, _, rfl, rfl, _, rfl, ?_⟩⟩⟩
        by_cases e : x = y
        · rw [decide_eq_true (show optV (some x) = optV (some y) by rw [e])]
          have k : Q (optV (if x = y then some "kept" else some "turned")) H := k
          rw [if_pos e] at k
          exact iteT k
        · rw [decide_eq_false (show ¬ optV (some x) = optV (some y) from fun q => e (V.str.inj q))]
          have k : Q (optV (if x = y then some "kept" else some "turned")) H := k
          rw [if_neg e] at k
          exact iteF k
/-! ### row_of -/
def sp_row_of (K : PySem.W.Frag) : Sp := fun vs H Q _ => ∃ t x cols rows, vs = [.ref t, .str x] ∧ TableAt K H t cols rows ∧ OkRows cols rows ∧ ∀ H' p, Same H H' → H p = none → H' p = some (cO (rowOf rows x)) → Q (.ref p) H'
theorem sc_row_of : FnScope ["table", "place"] ["table", "place"] (defScope s_row_of) := ⟨rfl, rfl, rfl, by decide +kernel, rfl, by decide +kernel, by decide +kernel⟩
theorem ok_row_of (T : Tx K mg) : C8.Cal P w K mg base 7 "row_of" (sp_row_of K) [] := by
  refine cal_of T.f_row_of T.g_row_of sc_row_of (fun _ _ _ _ _ _ us hl => match us, hl with | [_, _], _ => rfl) (fun vs H Q E h => ?_) (fun cdv A outer s H vs Q E hr h => ?_)
  · obtain ⟨t, x, cols, rows, rfl, _⟩ := h
    rfl
  · obtain ⟨t, x, cols, rows, rfl, ht, ho, k⟩ := h
    have nd := sc_row_of.nd
    refine ⟨_, (pss_one (ps_ret (pe_ifExp (pt_cmpR (op_own_in (ok_Table_contains T) hr (by decide)) (pv 1) (pv 0) (by rfl)) (pe_own_item (ok_Table_getitem T) T.item hr (by decide) (pv 0) (pv 1)) pe_dnewK))), ?_⟩
    walk_at "nf"
    obtain ⟨dx, ct, rd, h1, h2, h3⟩ := ht.ex
    refine ⟨_, rfl, _, rfl, t, dx, _, rfl, h1, t, x, cols, rows, rfl, ht, ho, _, rfl, _, rfl, ?_⟩
    by_cases hx : x ∈ rows.map Prod.fst
    · rw [decide_eq_true hx]
      obtain ⟨r, hr1, rfl⟩ := List.mem_map.mp hx
      rw [rowOf_mem ho.nd hr1] at k
      exact iteT ⟨_, rfl, _, rfl, t, dx, _, rfl, h1, t, cols, rows, r, rfl, ht, ho, hr1, k⟩
    · rw [decide_eq_false hx]
      rw [rowOf_not hx] at k
      exact iteF fun p hp => k _ p ((Same.refl _).new hp) hp upd_same
end
end NS
set_option Elab.async false
set_option linter.all false
set_option maxRecDepth 100000
set_option maxHeartbeats 4000000
/-! Rules of our own: defs and classes called with keywords. -/
namespace NS
open PySem PySem.Spec PyProof.Rows L2 He
/-- a def called with n positional values and the keywords ks -/
structure CalK (P : Program) (w : World) (K : PySem.W.Frag) (mg : Str → Option Value) (base : Heap) (k : Nat) (x : Str) (sp : Sp) (n : Nat) (ks : List Str) (gV : List V → List V → List V) : Prop where
  ex : ∃ f fd ps g, FnOk P w K mg base CX0 k f fd ps sp ∧ mg x = some (.ref f) ∧ PySem.W.keepIn K (.ref f) = true ∧ KBn K fd ps n ks g gV
structure MakK (P : Program) (w : World) (K : PySem.W.Frag) (mg : Str → Option Value) (base : Heap) (k : Nat) (x : Str) (C : Addr) (sp : Sp) (n : Nat) (ks : List Str) (gV : List V → List V → List V) : Prop where
  ex : ∃ f fd ps g, Mk K C f ∧ FnOk P w K mg base CX0 k f fd ps sp ∧ mg x = some (.ref C) ∧ KBn K fd ps (n + 1) ks g gV
theorem calk_of {P : Program} {w : World} {K : PySem.W.Frag} {mg : Str → Option Value} {base : Heap} {x : Str} {st : Stmt} {N ps : List Str} {k n : Nat} {sp : Sp} {ks : List Str} {gV : List V → List V → List V} {g : List Value → List Value → List Value}
    (hF : ∃ fd, FunD K x x (defArgs st) (defBody st) (defScope st) [] [] (ga K x) fd) (hm : mg x = some (.ref (ga K x))) (S : FnScope N ps (defScope st))
    (b : ∀ (kV doc pm : Value) (an : Option Addr) (cdv ct : Value) (us ws : List Value), us.length = n → ws.length = ks.length → bindArgs (PySem.W.fnOf x x (defArgs st) (defBody st) (defScope st) .none kV doc pm an cdv ct) ⟨us, ks.zip ws⟩ = pure (ps.zip (g us ws)))
    (rel : ∀ {vs : List V} {us : List Value} {zs : List V} {ws : List Value}, Vals vs us → Vals zs ws → Vals (gV vs zs) (g us ws))
    (len : ∀ vs H Q E, sp vs H Q E → vs.length = ps.length) (hb : BodyOk P w K mg base N x st (ga K x) k sp) : CalK P w K mg base (k + 1) x sp n ks gV := by
  obtain ⟨fd, F⟩ := hF
  refine ⟨_, fd, ps, g, fnd_ok F S len hb, hm, F.kp, ⟨fun s us ws X l1 l2 => ?_, rel⟩⟩
  obtain ⟨oc, od, dV, kV, doc, pm, an, cdv, ct, osl, rfl, lk, hcd, hD, hK⟩ := F.ex
  rcases hD with ⟨_, rfl⟩ | ⟨e, _⟩
  · exact .of_eq (b kV doc pm an cdv ct us ws l1 l2)
  · exact absurd rfl e
section
variable {X : Cx} {k j n : Nat} {C : Addr} {x : Str} {sp : Sp} {ks : List Str} {gV : List V → List V → List V} {p pos : Pos} {e : Expr} {es : List Expr} {kws : List Keyword} {t tk : TA}
theorem pe_callKC (c : CalK X.prog X.w X.K X.mg X.base k x sp n ks gV) (hr : Room j X.A) (hk : k ≤ j) (hg : Gl X x)
    (ha : PA X (e :: es) t) (hkw : PK X kws tk) (hall : (backToKw pos (keywordEach kws X.env)).all (·.1.isSome) = true := by rfl) (hks : (backToKw pos (keywordEach kws X.env)).filterMap (·.1) = ks := by rfl)
    (hdb : (x == ("__debug__" : Str)) = false := by decide) (he : starEach (e :: es) X.env = (false, eval e X.env) :: starEach es X.env := by rfl)
    (hpl : ((backTo pos (starEach (e :: es) X.env)).any (·.1) || (backToKw pos (keywordEach kws X.env)).any (·.1.isNone)) = false := by rfl) :
    PE X (.Call (.Name x p) (e :: es) kws pos) (tCallN n ks.length sp gV E0 t tk) := by
  obtain ⟨f, fd, ps, g, F, hm, hkp, hb⟩ := c.ex
  exact pe_callN F (hr.mono hk) hg hm hkp hb (fun _ _ _ _ _ _ _ h => False.elim h) ha hkw hall hks hdb he hpl
theorem pe_callK0C (c : CalK X.prog X.w X.K X.mg X.base k x sp 0 ks gV) (hr : Room j X.A) (hk : k ≤ j) (hg : Gl X x)
    (hkw : PK X kws tk) (hall : (backToKw pos (keywordEach kws X.env)).all (·.1.isSome) = true := by rfl) (hks : (backToKw pos (keywordEach kws X.env)).filterMap (·.1) = ks := by rfl)
    (hdb : (x == ("__debug__" : Str)) = false := by decide)
    (hpl : ((backTo pos (starEach [] X.env)).any (·.1) || (backToKw pos (keywordEach kws X.env)).any (·.1.isNone)) = false := by rfl) :
    PE X (.Call (.Name x p) [] kws pos) (tCallN 0 ks.length sp gV E0 tNil tk) := by
  obtain ⟨f, fd, ps, g, F, hm, hkp, hb⟩ := c.ex
  refine ⟨fun pins s σ H Q I h => ?_⟩
  refine wpAny_Call_Name_kw (ld_glob I hg hm ?_ hdb)
  refine PySem.W.callWith_KW0 (h₀ := X.base) I.ok.mod.kin hkp hall ?_ hpl
  refine thn (hkw.run pos pins s σ H _ I h) fun ws s2 ⟨zs, H2, I2, rz, l1, l2, q2⟩ => ⟨I2.kIn, ?_⟩
  rw [hks]
  exact run_fnN (us := []) (vs := []) F (hr.mono hk) hb (fun _ _ _ _ _ _ _ h => False.elim h) I2 .nil rz rfl l2 q2
theorem pe_makeKC (c : MakK X.prog X.w X.K X.mg X.base k x C sp n ks gV) (hr : Room j X.A) (hk : k + 1 ≤ j) (hg : Gl X x) (ha : PA X (e :: es) t) (hkw : PK X kws tk)
    (hall : (backToKw pos (keywordEach kws X.env)).all (·.1.isSome) = true := by rfl) (hks : (backToKw pos (keywordEach kws X.env)).filterMap (·.1) = ks := by rfl) (hdb : (x == ("__debug__" : Str)) = false := by decide)
    (he : starEach (e :: es) X.env = (false, eval e X.env) :: starEach es X.env := by rfl) (hpl : ((backTo pos (starEach (e :: es) X.env)).any (·.1) || (backToKw pos (keywordEach kws X.env)).any (·.1.isNone)) = false := by rfl) :
    PE X (.Call (.Name x p) (e :: es) kws pos) (tMakeK C n ks.length sp gV E0 t tk) := by
  obtain ⟨f, fd, ps, g, M, F, hm, hb⟩ := c.ex
  exact pe_makeK M F (hr.mono hk) hg hm hb (fun _ _ _ _ _ _ _ h => False.elim h) ha hkw hall hks hdb he hpl
end
end NS
set_option Elab.async false
set_option linter.all false
set_option maxRecDepth 100000
set_option maxHeartbeats 4000000
/-! Rules of our own: repr of data, text * int, a pair turned round, a walk over a list or a tuple. -/
namespace NS
open PySem PySem.Spec PyProof.Rows L2 He
/-! ### a walk over a list or a tuple -/
def iAny (K : PySem.W.Frag) (i : Nat) : TI := fun σ H R => ∃ a, σ[i]? = some (some (.ref a)) ∧ (((∃ xs, SqL K H a xs) ∧ R (Itl K a) H) ∨ ((∃ xs, SqT K H a xs) ∧ R (Itt K a) H))
theorem pi_any {X : Cx} {tg e : Expr} {i : Nat} (he : PE X e (tVar i)) : PI X tg e (iAny X.K i) :=
  ⟨fun pins s σ H R I h => by
    obtain ⟨a, hs, ⟨h1, h2⟩ | ⟨h1, h2⟩⟩ := h
    · exact (pi_list he).run pins s σ H R I ⟨_, hs, a, rfl, h1, h2⟩
    · exact (pi_tup he).run pins s σ H R I ⟨_, hs, a, rfl, h1, h2⟩⟩
/-! ### repr of data -/
def rRepr (K : PySem.W.Frag) : List V → Hp → VK → Prop := fun vs H Q => ∃ a d, vs = [V.ref a] ∧ Dp K H (.ref a) d ∧ d.showable = true ∧ d.hasDict = false ∧ d.depth ≤ 8 ∧ d.shown.length ≤ sizeLine ∧ Q (.str d.shown) H
theorem cr_repr {X : Cx} (hg : X.A.guards = some []) (hu : X.A.units + 64 < cLine) : CallR X (.builtin "repr") (rRepr X.K) := by
  intro pins s σ H vs us Q I r h
  obtain ⟨a, d, rfl, hd, h1, h2, h3, h4, q⟩ := h
  rw [Vals.ref1 r]
  obtain ⟨as, r1⟩ := Dp.reads I d _ _ hd (show RelV (.ref a) (Value.ref a) from rfl)
  exact repr_of_reads' r1 h1 (PyData.noDict_hsm h2) hg (by omega) (fun _ _ e => e) (fun h' u tk hk => ⟨.str d.shown, H, I.kept (t' := tk) hk, ⟨u, rfl⟩, q⟩) h4
/-! ### text * int -/
def rRep : R2 := fun x y H Q => ∃ z n, x = .str z ∧ y = .int n ∧ PySem.MulOk z n ∧ Q (.str (Txt.mul z n)) H
theorem op_rep_str {X : Cx} : OpR X (binaryOp .Mult) rRep := by
  intro pins s σ H x y v u Q I rx ry h
  obtain ⟨z, n, rfl, rfl, hm, q⟩ := h
  obtain ⟨t1, rfl⟩ := rx
  obtain ⟨t2, rfl⟩ := ry
  exact PySem.SB.mul hm fun t' k => ⟨.str (Txt.mul z n), H, I.tok k, ⟨t', rfl⟩, q⟩
theorem rep_no (z : Str) : PySem.MulOk z 0 ∧ Txt.mul z 0 = Str.empty := ⟨⟨by decide, fun h => absurd (by decide) h, fun h => absurd (by decide) h⟩, rfl⟩
theorem rep_one (z : Str) : PySem.MulOk z 1 ∧ Txt.mul z 1 = z := ⟨⟨by decide, fun _ h => by simp at h, fun _ h => by simp at h⟩, by unfold Txt.mul; simp⟩
/-! ### a pair turned round -/
section
variable {prog : Program} {w : World} {A : Around} {E : Value → Shared → Prop} {s : Shared}
theorem back2 {t sl : Addr} {x y : Value} {tk : Tok} {Q : Value → Shared → Prop} (ht : IsTup s.heap t #[x, y]) (hs : s.heap.IsSliceOf sl .none .none (.int (-1) tk))
    (h : Q (.ref s.heap.objs.size) { s with heap := s.heap.push { cls := .type "tuple", data := .seq #[y, x] } }) : wpAny (model prog w) A (getItem (.ref t) (.ref sl)) Q E s := by
  have hz : sizeOk (.seq #[y, x]) := by show 2 ≤ sizeLine; decide
  obtain ⟨os, o1, o2, o3⟩ := id hs
  have ty : s.TypeIs (.ref sl) "slice" := ⟨os, o1, o2⟩
  have ap : ∀ {Q' : Int × Int × Nat → Shared → Prop} {A' : Around} {E' : Value → Shared → Prop}, Q' (1, -1, 2) s → wpAny (model prog w) A' (Builtin.Slice.sliceApplied (.ref sl) (pure ((#[x, y] : Array Value).size : Int))) Q' E' s := fun q => by
    unfold Builtin.Slice.sliceApplied Builtin.Slice.sliceFields
    refine wpAny_bind (wpAny_bind (wpAny_field o1 o3 (x := .none) rfl ?_))
    refine wpAny_bind (wpAny_field o1 o3 (x := .none) rfl (wpAny_bind (wpAny_field o1 o3 (x := .int (-1) tk) rfl (wpAny_pure ?_))))
    refine wpAny_bind (PyProof.Rows.slicePart_int ?_)
    show wpAny _ _ (if ((-1 : Int) == 0) = true then _ else _) _ _ s
    rw [if_neg (show ¬ ((-1 : Int) == 0) = true by decide)]
    refine wpAny_bind (PyProof.Rows.slicePart_none (wpAny_bind (PyProof.Rows.slicePart_none (wpAny_bind (wpAny_pure ?_)))))
    show wpAny _ _ (match Builtin.Slice.sliceAdjust none none (-1) (2 : Int) with
      | (lo, hi) => pure (lo, (-1 : Int), Builtin.Slice.slicePlaces lo hi (-1))) _ _ s
    rw [show Builtin.Slice.sliceAdjust none none (-1) (2 : Int) = (1, -1) by decide]
    show wpAny _ _ (pure ((1 : Int), (-1 : Int), Builtin.Slice.slicePlaces 1 (-1) (-1))) _ _ s
    rw [show Builtin.Slice.slicePlaces 1 (-1) (-1) = 2 by decide]
    exact wpAny_pure q
  unfold getItem
  refine wpAny_holding (wpAny_bind (wpAny_sequenceKey ht.typeIs (by decide) ?_))
  refine wpAny_bind (wpAny_callSpecial?_slot ht.typeIs PyProof.Rows.slot_tuple_getitem ?_)
  refine wpAny_call_entry PyProof.Rows.slot_tuple_getitem ht.typeIs PyProof.Rows.entry_tuple_getitem ?_ (PyProof.Rows.args_tuple_getitem _ _)
  refine wpAny_bind (m := Builtin.Tuple.tupleItemsOf (.ref t)) (PyProof.Rows.tupleItemsOf_ ht ?_)
  refine wpAny_bind (wpAny_typeOf ty ?_)
  rw [if_pos (by decide)]
  refine wpAny_bind (ap ?_)
  show wpAny _ _ (if ((1 : Int) == 0 && (-1 : Int) == 1 && (2 == (#[x, y] : Array Value).size)) = true then _ else _) _ _ s
  rw [if_neg (show ¬ ((1 : Int) == 0 && (-1 : Int) == 1 && (2 == (#[x, y] : Array Value).size)) = true from fun z => Bool.false_ne_true z)]
  exact wpAny_bind (m := Builtin.Tuple.tupleExact _) (wpAny_newObj_type (wpAny_pure ⟨_, rfl, wpAny_pure h⟩) hz)
end
def tRev2 (K : PySem.W.Frag) (te : TE) : TE := fun σ H Q => te σ H fun v H1 => ∃ a x y, v = .ref a ∧ SqT K H1 a [x, y] ∧ ∀ p, H1 p = none → Q (.ref p) (upd H1 p (.tup [y, x]))
theorem pe_revT {X : Cx} {e : Expr} {te : TE} {k : Nat} {p1 p2 p3 pos : Pos} (he : PE X e te) : PE X (.Subscript e (.Slice none none (some (.UnaryOp .USub (.Constant (.int 1) k p1) p2)) p3) pos) (tRev2 X.K te) :=
  ⟨fun pins s σ H Q I h => by
    refine Subscript_ (thn (he.run pins s σ H _ I h) fun v s1 hv => ?_)
    obtain ⟨_, H1, I1, r1, a, x, y, rfl, hx, q⟩ := hv
    cases r1
    refine wpAny_Slice (thn (po_none.run pins s1 σ H1 (fun o H2 => o = none ∧ H2 = H1) I1 ⟨rfl, rfl⟩) fun vl s2 hl => ?_)
    obtain ⟨_, H2, I2, pl, rfl, rfl⟩ := hl
    refine thn (po_none.run pins s2 σ H2 (fun o H3 => o = none ∧ H3 = H2) I2 ⟨rfl, rfl⟩) fun vu s3 hh => ?_
    obtain ⟨_, H3, I3, pu, rfl, rfl⟩ := hh
    have st : PO X (some (.UnaryOp .USub (.Constant (.int 1) k p1) p2)) (tPart (tUn (rU fun i => .int (-i)) (tC (.int 1)))) := po_some (pe_un un_neg pe_int)
    refine thn (st.run pins s3 σ H3 (fun o H4 => o = some (-1) ∧ H4 = H3) I3 ⟨1, rfl, -1, rfl, rfl, rfl⟩) fun vs s4 hv => ?_
    obtain ⟨_, H4, I4, ps, rfl, rfl⟩ := hv
    cases pl
    cases pu
    cases ps with
    | int i tk =>
      have I5 : Inv X pins σ H4 { s4 with heap := s4.heap.push { cls := .type "slice", data := .fields #[.none, .none, .int (-1) tk] } } := I4.kept (t' := s4.toks) fun b ob z => Heap.get?_push_of_some _ z
      obtain ⟨its, r, ht, hz⟩ := I5.tuple hx
      cases r with
      | cons ra rr =>
        cases rr with
        | cons rb rn =>
          cases rn
          refine tail_any (ops := [.ref a, .ref s4.heap.objs.size]) ht.typeIs (PyProof.Rows.slot_tuple_getitem.lookup) ?_ (by with_unfolding_all rfl)
          refine back2 ht (Heap.IsSliceOf.new _ .none .none (.int (-1) tk)) ?_
          refine ⟨.ref _, _, I5.laid (t' := s4.toks) (o := .tup [y, x]) (fun b ob z => Heap.get?_push_of_some _ z) (Nat.le_refl _) ?_, rfl, q _ (I5.hok.fresh (Nat.le_refl _))⟩
          exact ⟨(by show 2 ≤ sizeLine; decide), _, .cons rb (.cons ra .nil), IsTup.new _ _⟩⟩
end NS
set_option Elab.async false
set_option linter.all false
set_option maxRecDepth 100000
set_option maxHeartbeats 4000000
/-! The law's pen: what is drawn. -/
namespace NS
open PySem PySem.Spec PyProof.Rows L2 He
local macro_rules | `(tactic| walk_at "nf") => `(tactic| dsimp only [L2.tNext, L2.tSeq, L2.tDrop, L2.tRet, L2.tRetN, L2.tIfS, L2.tAsg, L2.gName, L2.gCons, L2.gNil, L2.gTup, L2.tOp, L2.tUn, L2.tTest, L2.tChain, L2.tB, L2.tAnd, L2.tOr, L2.tNot, L2.tAndV, L2.tOrV, L2.tNotV, L2.tIf, L2.tCB, L2.tNil, L2.tCons, L2.tTup, L2.tLst, L2.tFld, L2.sFld, L2.tCall, L2.tMeth, L2.tMake, L2.tBM, L2.tBM0, L2.tM1, L2.tM0, L2.tSl, L2.tPart, L2.tNoPart, L2.tPar, L2.tVar, L2.tC, L2.cxOf, L2.tYes, C8.tCut])
/-- the pen at p: its cells (at c), the index of the next one, the rest of a great one -/
def PenAt (H : Hp) (p c : Addr) (N : Nat) : Prop := ∃ (cs : List Int) (i g : Int), H p = some (.lst [.ref c, .int i, .int g]) ∧ H c = some (.lst (cs.map V.int)) ∧ c ≠ p ∧ cs.length ≤ 63 ∧ 0 ≤ i ∧ i ≤ N ∧ 0 ≤ g
theorem PenAt.mono {H : Hp} {p c : Addr} {N M : Nat} (h : PenAt H p c N) (l : N ≤ M) : PenAt H p c M := let ⟨cs, i, g, h1, h2, h3, h4, h5, h6, h7⟩ := h; ⟨cs, i, g, h1, h2, h3, h4, h5, by omega, h7⟩
theorem Same.pen {H H' : Hp} {p c : Addr} {N : Nat} (e : Same H H') (h : PenAt H p c N) : PenAt H' p c N := let ⟨cs, i, g, h1, h2, h3⟩ := h; ⟨cs, i, g, e _ _ h1, e _ _ h2, h3⟩
theorem PenAt.lst {H : Hp} {p c : Addr} {N : Nat} (h : PenAt H p c N) : ∃ xs, H p = some (.lst xs) := let ⟨_, _, _, h1, _⟩ := h; ⟨_, h1⟩
theorem PenAt.lst_some {H : Hp} {p c : Addr} {N : Nat} (h : PenAt H p c N) : ∃ o, H p = some o := let ⟨_, _, _, h1, _⟩ := h; ⟨_, h1⟩
/-- what is no part of the pen may change -/
theorem PenAt.put {H : Hp} {p c L : Addr} {N : Nat} {o : HO} (h : PenAt H p c N) (hc : L ≠ c) (hp : L ≠ p) : PenAt (upd H L o) p c N := by
  obtain ⟨cs, i, g, h1, h2, h3⟩ := h
  exact ⟨cs, i, g, (upd_ne hp.symm).trans h1, (upd_ne hc.symm).trans h2, h3⟩
theorem PenAt.new {H : Hp} {p c L : Addr} {N : Nat} (h : PenAt H p c N) (hL : H L = none) : L ≠ c ∧ L ≠ p := by
  obtain ⟨cs, i, g, h1, h2, h3⟩ := h
  exact ⟨fun z => (by rw [z, h2] at hL; cases hL), fun z => (by rw [z, h1] at hL; cases hL)⟩
theorem walk_rngL {n : Nat} : Walk (Itr 0 n) n (fun _ => True) (YFn fun i => V.int ((i : Nat) : Int)) := (walk_range (lo := 0) (n := n)).mono (fun _ h => h) (fun i H x H' _ _ ⟨a, b⟩ => ⟨a, by rw [b]; simp⟩)
theorem But.free {D b : Addr} {H H' : Hp} (e : But D H H') (h : H' b = none) (hD : ∃ o, H' D = some o) : H b = none := by
  cases q : H b with
  | none => rfl
  | some u =>
    by_cases z : b = D
    · subst z
      obtain ⟨o, ho⟩ := hD
      rw [h] at ho
      cases ho
    · rw [e b u z q] at h
      cases h
theorem dp_ints {K : PySem.W.Frag} {H : Hp} : ∀ l : List Int, DpAll K H (l.map V.int) (l.map .int)
  | [] => .nil
  | x :: r => .cons (.int x) (dp_ints r)
theorem shp_ints (l : List Int) : Shp 1 (.list (l.map .int)) := Shp.list (n := 0) fun d hd => by
  obtain ⟨i, _, rfl⟩ := List.mem_map.mp hd
  exact Shp.int i
theorem eqv_nilM (ds : List PyData) : PyData.eqv (.list ds) (.list []) = ds.isEmpty := by
  cases ds with
  | nil => decide +kernel
  | cons d r => simp [PyData.eqv, PyData.eqvAll]
section
variable {P : Program} {w : World} {K : PySem.W.Frag} {mg : Str → Option Value} {base : Heap}
def sp_law_pen (K : PySem.W.Frag) : Sp := fun vs H Q _ => ∃ a, ∃ ns : List Int, vs = [.ref a] ∧ SqL K H a (ns.map V.int) ∧ ns.length ≤ 63 ∧ ∀ H' p c, Same H H' → H p = none → PenAt H' p c 0 → Q (.ref p) H'
theorem sc_law_pen : FnScope ["_law_script"] ["_law_script"] (defScope s_law_pen) := ⟨rfl, rfl, rfl, by decide +kernel, rfl, by decide +kernel, by decide +kernel⟩
theorem ok_law_pen (T : Tx K mg) : C8.Cal P w K mg base 1 "_law_pen" (sp_law_pen K) [] := by
  refine cal_of T.f_law_pen T.g_law_pen sc_law_pen (fun _ _ _ _ _ _ us hl => match us, hl with | [_], _ => rfl) (fun vs H Q E h => ?_) (fun cdv A outer s H vs Q E hr h => ?_)
  · obtain ⟨a, ns, rfl, _⟩ := h
    rfl
  · obtain ⟨a, ns, rfl, ha, hl, k⟩ := h
    have nd := sc_law_pen.nd
    refine ⟨_, (pss_one (ps_ret (pe_lst (pa_cons (pe_callTy call_list_of (by rfl) T.z_list (by decide +kernel) (pa_cons (pe_slice sl_list (pv 0) po_none (po_some pe_int)) pa_nil)) (pa_cons pe_int (pa_cons pe_int pa_nil)))))), ?_⟩
    walk_at "nf"
    refine ⟨_, rfl, _, rfl, a, _, rfl, ha, fun q hq => ⟨q, _, rfl, .inl (SqL.of upd_same), fun c hc => ⟨(by show 3 ≤ sizeLine; decide), fun p hp => ?_⟩⟩⟩
    have e1 : Same H (upd H q (.lst (cutV (ns.map V.int) none (some 63)))) := (Same.refl _).new hq
    have e2 := e1.new (o := .lst (cutV (ns.map V.int) none (some 63))) hc
    have hcut : cutV (ns.map V.int) none (some 63) = ns.map V.int := by
      unfold cutV
      have z1 : HT.sIx (ns.map V.int).length 0 none = 0 := rfl
      have z2 : HT.sIx (ns.map V.int).length (ns.map V.int).length (some 63) = (ns.map V.int).length := by
        unfold HT.sIx
        simp only [List.length_map]
        have : ¬ (63 : Int) < 0 := by decide
        simp only [this, if_false]
        show min 63 ns.length = _
        omega
      rw [z1, z2, List.drop_zero, Nat.sub_zero, List.take_length]
    refine k _ p c (e2.new hp) (e2.free hp) ⟨ns, 0, 0, upd_same, ?_, ?_, hl, by omega, by omega, by omega⟩
    · rw [upd_ne (fun z => by rw [z, upd_same] at hp; cases hp), upd_same, hcut]
    · exact fun z => by rw [z, upd_same] at hp; cases hp
def sp_law_draw : Sp := fun vs H Q _ => ∃ p c N, ∃ m : Int, vs = [.ref p, .int m] ∧ PenAt H p c N ∧ N ≤ 1000 ∧ 0 < m ∧ m ≤ 1000 ∧ ∀ H', ∀ r : Nat, But p H H' → PenAt H' p c (N + 1) → (r : Int) < m → Q (.int (r : Nat)) H'
theorem sc_law_draw : FnScope ["_law_pen_here", "_law_many", "_law_at", "_law_cell", "_law_blend", "_law_digit", "_law_great"] ["_law_pen_here", "_law_many"] (defScope s_law_draw) := ⟨rfl, rfl, rfl, by decide +kernel, rfl, by decide +kernel, by decide +kernel⟩
theorem ok_law_draw (T : Tx K mg) : C8.Cal P w K mg base 1 "_law_draw" sp_law_draw [] := by
  refine cal_of T.f_law_draw T.g_law_draw sc_law_draw (fun _ _ _ _ _ _ us hl => match us, hl with | [_, _], _ => rfl) (fun vs H Q E h => ?_) (fun cdv A outer s H vs Q E hr h => ?_)
  · obtain ⟨p, c, N, m, rfl, _⟩ := h
    rfl
  · obtain ⟨p, c, N, m, rfl, ⟨cs, i, g, h1, h2, h3, h4, h5, h6, h7⟩, hN, hm, hm2, k⟩ := h
    have nd := sc_law_draw.nd
    refine ⟨_, (pss_cons (ps_if (pt_cmpR op_gt (pe_ix ix_list (pv 0) pe_int (fun _ _ => rfl)) pe_int (nomark _)) (pss_cons (ps_set (i := 5) nd rfl (Or.inl rfl) (pe_op op_mod (pe_callTy call_int1 (by rfl) T.z_int (by decide +kernel) (pa_cons (pe_ix ix_list (pv 0) pe_int (fun _ _ => rfl)) pa_nil)) (pv 1)))
      (pss_cons (ps_asg (pe_op op_fdiv (pe_callTy call_int1 (by rfl) T.z_int (by decide +kernel) (pa_cons (pe_ix ix_list (pv 0) pe_int (fun _ _ => rfl)) pa_nil)) (pv 1)) (pg_sub (pv 0) pe_int set_list))
      (pss_one (ps_ret (pv 5))))) pss_nil)
      (pss_cons (ps_set (i := 2) nd rfl (Or.inl rfl) (pe_ix ix_list (pv 0) pe_int (fun _ _ => rfl)))
      (pss_cons (ps_asg (pe_op op_add (pv 2) pe_int) (pg_sub (pv 0) pe_int set_list))
      (pss_cons (ps_set (i := 3) nd rfl (Or.inl rfl) (pe_op op_add (pe_op op_mul pe_int (pv 2)) pe_int))
      (C8.pss_cut (ps_if (pt_cmpR (op_neD hr.units) (pe_ix ix_list (pv 0) pe_int (fun _ _ => rfl)) (pe_lst pa_nil) (nomark _)) (pss_one (ps_set (i := 3) nd rfl (Or.inl rfl) (pe_ix ix_list (pe_ix ix_list (pv 0) pe_int (fun _ _ => rfl)) (pe_op op_mod (pe_callTy call_int1 (by rfl) T.z_int (by decide +kernel) (pa_cons (pv 2) pa_nil)) (pe_callB call_len_seq (by rfl) T.z_len (by decide +kernel) (pa_cons (pe_ix ix_list (pv 0) pe_int (fun _ _ => rfl)) pa_nil))) (fun _ _ => rfl)))) pss_nil)
      (C8.pss_cut (ps_if (PW.pt (pw_and (pt_cmpR op_lt (pv 2) (pe_callB call_len_seq (by rfl) T.z_len (by decide +kernel) (pa_cons (pe_ix ix_list (pv 0) pe_int (fun _ _ => rfl)) pa_nil)) (nomark _)) (pw_and1 (pt_cmpR op_ge (pe_callB call_abs (by rfl) T.z_abs (by decide +kernel) (pa_cons (pv 3) pa_nil)) (pe_op op_pow pe_int pe_int) (nomark _))))) (pss_cons (ps_set (i := 6) nd rfl (Or.inl rfl) (pe_op op_add (pe_op op_mul pe_int (pe_op op_sub (pe_callB call_abs (by rfl) T.z_abs (by decide +kernel) (pa_cons (pv 3) pa_nil)) (pe_op op_pow pe_int pe_int))) (pe_callTy call_int1 (by rfl) T.z_int (by decide +kernel) (pa_cons (pe_cmpR op_lt (pv 3) pe_int (nomark _)) pa_nil))))
      (pss_cons (ps_asg (pe_op op_fdiv (pe_callTy call_int1 (by rfl) T.z_int (by decide +kernel) (pa_cons (pv 6) pa_nil)) (pv 1)) (pg_sub (pv 0) pe_int set_list))
      (pss_one (ps_ret (pe_op op_mod (pe_callTy call_int1 (by rfl) T.z_int (by decide +kernel) (pa_cons (pv 6) pa_nil)) (pv 1)))))) pss_nil)
      (pss_cons (ps_set (i := 4) nd rfl (Or.inl rfl) (pe_op op_mod (pe_callTy call_int1 (by rfl) T.z_int (by decide +kernel) (pa_cons (pe_op op_pow (pe_op op_add (pe_op op_add (pe_op op_mod (pe_callTy call_int1 (by rfl) T.z_int (by decide +kernel) (pa_cons (pv 3) pa_nil)) pe_int) (pe_op op_mul pe_int (pv 2))) pe_int) pe_int) pa_nil)) pe_int))
      (pss_cons (ps_set (i := 4) nd rfl (Or.inl rfl) (pe_op op_mod (pe_callTy call_int1 (by rfl) T.z_int (by decide +kernel) (pa_cons (pe_op op_pow (pe_op op_add (pe_op op_add (pe_op op_mul (pv 4) (pe_op op_add (pe_op op_mul pe_int (pv 2)) pe_int)) (pe_op op_mul (pe_op op_mul pe_int (pv 2)) (pv 2))) pe_int) pe_int) pa_nil)) pe_int))
      (pss_one (ps_ret (pe_op op_mod (pe_callTy call_int1 (by rfl) T.z_int (by decide +kernel) (pa_cons (pe_op op_fdiv (pv 4) pe_int) pa_nil)) (pv 1)))))))))))), ?_⟩
    walk_at "nf"
    refine ⟨_, rfl, p, _, _, _, rfl, rfl, SqL.of h1, rfl, _, _, rfl, rfl, _, rfl, ?_⟩
    have fin : ∀ (v : Int), 0 ≤ v → ∀ (H' : Hp), But p H H' → PenAt H' p c (N + 1) → Q (.int (v % m)) H' := fun v hv H' e hp => by
      have er : ((v % m).toNat : Int) = v % m := Int.toNat_of_nonneg (Int.emod_nonneg _ (by omega))
      have := k H' (v % m).toNat e hp (by rw [er]; exact Int.emod_lt_of_pos _ hm)
      rwa [er] at this
    by_cases hg : 0 < g
    · rw [decide_eq_true hg]
      refine iteT ⟨_, rfl, p, _, _, _, rfl, rfl, SqL.of h1, rfl, .inl ⟨_, rfl, _, rfl, _, _, rfl, rfl, hm, ?_⟩⟩
      refine ⟨_, rfl, p, _, _, _, rfl, rfl, SqL.of h1, rfl, .inl ⟨_, rfl, _, rfl, _, _, rfl, rfl, ⟨hm, by omega⟩, ?_⟩⟩
      refine ⟨_, rfl, p, _, _, _, rfl, rfl, h1, rfl, _, rfl, ?_⟩
      exact fin g h7 _ But.put ⟨cs, i, g / m, upd_same, (upd_ne h3).trans h2, h3, h4, h5, by omega, Int.ediv_nonneg h7 (by omega)⟩
    · rw [decide_eq_false hg]
      refine iteF ⟨_, rfl, p, _, _, _, rfl, rfl, SqL.of h1, rfl, ?_⟩
      refine ⟨_, rfl, _, _, rfl, rfl, _, rfl, p, _, _, _, rfl, rfl, h1, rfl, ?_⟩
      have u1 : upd H p (.lst [.ref c, .int (i + 1), .int g]) p = some (.lst [.ref c, .int (i + 1), .int g]) := upd_same
      have u2 : upd H p (.lst [.ref c, .int (i + 1), .int g]) c = some (.lst (cs.map V.int)) := (upd_ne h3).trans h2
      have uB : But p H (upd H p (.lst [.ref c, .int (i + 1), .int g])) := But.put
      generalize hH1 : upd H p (.lst [.ref c, .int (i + 1), .int g]) = H1 at u1 u2 uB
      show tSeq _ _ _ _ (upd H p (.lst [.ref c, .int (i + 1), .int g]))
      rw [hH1]
      walk_at "nf"
      refine ⟨_, rfl, _, _, rfl, rfl, .inl ⟨by decide, by decide⟩, _, _, rfl, rfl, ?_⟩
      refine ⟨fun σ' H' => ∃ cell : Int, σ' = [some (.ref p), some (.int m), some (.int i), some (.int cell), none, none, none] ∧ Same H1 H', ?_, ?_⟩
      · refine ⟨_, rfl, p, _, _, _, rfl, rfl, SqL.of u1, rfl, Nat.zero_le _, fun q hq => ?_⟩
        have e1 : Same H1 (upd H1 q (.lst [])) := (Same.refl _).new hq
        refine ⟨.list (cs.map .int), .list [], .lst (SqL.of (e1 _ _ u2)) (dp_ints cs), .lst (SqL.of upd_same) .nil, (shp_ints cs).ok (by decide), shp_nil, _, rfl, ?_⟩
        rw [eqv_nilM]
        cases cs with
        | nil => exact iteF ⟨_, rfl, e1⟩
        | cons x r =>
          have hp : 0 < (((x :: r).map V.int).length : Int) := by rw [List.length_map, List.length_cons]; omega
          obtain ⟨j, hj, ej⟩ : ∃ j : Nat, j < (x :: r).length ∧ i % (((x :: r).map V.int).length : Int) = (j : Int) := by
            refine ⟨(i % (((x :: r).map V.int).length : Int)).toNat, ?_, (Int.toNat_of_nonneg (Int.emod_nonneg _ (by omega))).symm⟩
            have := Int.emod_lt_of_pos i hp
            have := Int.emod_nonneg i (b := (((x :: r).map V.int).length : Int)) (by omega)
            rw [List.length_map] at *
            omega
          have hget : ((x :: r).map V.int)[j]? = some (.int (x :: r)[j]) := by rw [List.getElem?_map, List.getElem?_eq_getElem hj]; rfl
          refine iteT ⟨_, rfl, p, _, _, _, rfl, rfl, SqL.of (e1 _ _ u1), rfl, _, rfl, .inl ⟨_, rfl, _, rfl, p, _, _, _, rfl, rfl, SqL.of (e1 _ _ u1), rfl, c, _, rfl, .inl (SqL.of (e1 _ _ u2)), _, _, rfl, rfl, hp, ?_⟩⟩
          dsimp only
          rw [ej]
          exact ⟨c, _, _, _, rfl, rfl, SqL.of (e1 _ _ u2), atI_nat hget, _, rfl, e1⟩
      · rintro σ' H2 ⟨cell, rfl, e2⟩
        have v1 := e2 _ _ u1
        have v2 := e2 _ _ u2
        have vB : But p H H2 := uB.trans (Same.but e2)
        refine ⟨fun σ' H' => σ' = [some (.ref p), some (.int m), some (.int i), some (.int cell), none, none, none] ∧ H' = H2, ?_, ?_⟩
        · refine ⟨_, rfl, _, rfl, p, _, _, _, rfl, rfl, SqL.of v1, rfl, c, _, rfl, .inl (SqL.of v2), _, _, rfl, rfl, _, rfl, ?_⟩
          by_cases hb : i < ((cs.map V.int).length : Int)
          · rw [decide_eq_true hb]
            refine iteT ⟨_, rfl, _, rfl, _, _, rfl, rfl, ⟨by decide, by decide, by decide⟩, _, _, rfl, rfl, _, rfl, ?_⟩
            by_cases hb2 : (10 : Int) ^ (18 : Int).toNat ≤ (if cell < 0 then -cell else cell)
            · rw [decide_eq_true hb2]
              have hge : 0 ≤ 2 * ((if cell < 0 then -cell else cell) - (10 : Int) ^ (18 : Int).toNat) + (if decide (cell < 0) = true then 1 else 0) := by split <;> omega
              refine iteT ⟨_, rfl, _, rfl, _, _, rfl, rfl, ⟨by decide, by decide, by decide⟩, _, _, rfl, rfl, _, _, rfl, rfl, .inl ⟨by decide, by decide⟩, _, rfl, _, _, rfl, rfl, .inr ⟨_, rfl, _, _, rfl, rfl, ?_⟩⟩
              refine ⟨_, rfl, .inl ⟨_, rfl, _, rfl, _, _, rfl, rfl, ⟨hm, by omega⟩, ?_⟩⟩
              refine ⟨_, rfl, p, _, _, _, rfl, rfl, v1, rfl, _, rfl, .inl ⟨_, rfl, _, rfl, _, _, rfl, rfl, hm, ?_⟩⟩
              exact fin _ hge _ (vB.trans But.put) ⟨cs, i + 1, _, upd_same, (upd_ne h3).trans v2, h3, h4, by omega, by omega, Int.ediv_nonneg hge (by omega)⟩
            · rw [decide_eq_false hb2]
              exact iteF ⟨rfl, rfl⟩
          · rw [decide_eq_false hb]
            exact iteF (iteF ⟨rfl, rfl⟩)
        · rintro σ' H3 ⟨rfl, rfl⟩
          have hg0 : g = 0 := by omega
          have hpen : PenAt H3 p c (N + 1) := ⟨cs, i + 1, g, v1, v2, h3, h4, by omega, by omega, h7⟩
          have a1 := Int.emod_nonneg cell (b := 2147483549) (by decide)
          have a2 := Int.emod_lt_of_pos cell (b := 2147483549) (by decide)
          refine ⟨_, rfl, .inl ⟨_, rfl, _, _, rfl, rfl, (by show (0 : Int) < 2147483549; decide), _, rfl, _, _, rfl, rfl, .inl ⟨by decide, by decide⟩, _, _, rfl, rfl, _, _, rfl, rfl, _, _, rfl, rfl, ⟨by decide, by decide, ?_⟩, .inl ⟨_, rfl, _, _, rfl, rfl, (by show (0 : Int) < 2147483629; decide), ?_⟩⟩⟩
          · omega
          generalize (cell % 2147483549 + 30047 * i + 421) ^ (5 : Int).toNat = W
          have b1 := Int.emod_nonneg W (b := 2147483629) (by decide)
          have b2 := Int.emod_lt_of_pos W (b := 2147483629) (by decide)
          have hYi : (W % 2147483629) * (2 * i + 29) ≤ 2147483629 * 2029 := Int.mul_le_mul (by omega) (by omega) (by omega) (by omega)
          have hYi0 : 0 ≤ (W % 2147483629) * (2 * i + 29) := Int.mul_nonneg b1 (by omega)
          have hii : (40037 * i) * i ≤ 40037000 * 1000 := Int.mul_le_mul (by omega) (by omega) (by omega) (by omega)
          have hii0 : 0 ≤ (40037 * i) * i := Int.mul_nonneg (by omega) (by omega)
          refine ⟨_, rfl, _, rfl, _, _, rfl, rfl, .inl ⟨by decide, by decide⟩, _, _, rfl, rfl, _, _, rfl, rfl, .inl ⟨by omega, by omega⟩, _, rfl, _, _, rfl, rfl, .inl ⟨by decide, by decide⟩, _, rfl, _, _, rfl, rfl, .inr ⟨by omega, by omega⟩, _, _, rfl, rfl, _, _, rfl, rfl,
            _, _, rfl, rfl, ⟨by decide, by decide, ?_⟩, .inl ⟨_, rfl, _, _, rfl, rfl, (by show (0 : Int) < 2147483587; decide), ?_⟩⟩
          · omega
          refine ⟨_, rfl, _, _, rfl, rfl, ⟨by decide, by decide⟩, .inl ⟨_, rfl, _, rfl, _, _, rfl, rfl, hm, ?_⟩⟩
          exact fin _ (Int.ediv_nonneg (Int.emod_nonneg _ (by decide)) (by decide)) H3 vB hpen
/-- one of some things -/
def sp_law_pick (K : PySem.W.Frag) : Sp := fun vs H Q _ => ∃ p c N l xs, vs = [.ref p, .ref l] ∧ PenAt H p c N ∧ N ≤ 1000 ∧ SqL K H l xs ∧ l ≠ p ∧ 0 < xs.length ∧ xs.length ≤ 1000 ∧ ∀ H' x, But p H H' → PenAt H' p c (N + 1) → x ∈ xs → Q x H'
theorem sc_law_pick : FnScope ["_law_pen_here", "_law_some"] ["_law_pen_here", "_law_some"] (defScope s_law_pick) := ⟨rfl, rfl, rfl, by decide +kernel, rfl, by decide +kernel, by decide +kernel⟩
theorem ok_law_pick (T : Tx K mg) : C8.Cal P w K mg base 2 "_law_pick" (sp_law_pick K) [] := by
  refine cal_of T.f_law_pick T.g_law_pick sc_law_pick (fun _ _ _ _ _ _ us hl => match us, hl with | [_, _], _ => rfl) (fun vs H Q E h => ?_) (fun cdv A outer s H vs Q E hr h => ?_)
  · obtain ⟨p, c, N, l, xs, rfl, _⟩ := h
    rfl
  · obtain ⟨p, c, N, l, xs, rfl, hp, hN, hl, hne, h0, h1, k⟩ := h
    have nd := sc_law_pick.nd
    refine ⟨_, (pss_one (ps_ret (pe_ix ix_list (pv 1) (C8.pe_c (ok_law_draw T) hr (by decide) rfl (pa_cons (pv 0) (pa_cons (pe_callB call_len_seq (by rfl) T.z_len (by decide +kernel) (pa_cons (pv 1) pa_nil)) pa_nil))) (fun _ _ => rfl)))), ?_⟩
    walk_at "nf"
    refine ⟨_, rfl, _, rfl, _, rfl, l, _, rfl, .inl hl, p, c, N, _, rfl, hp, hN, by omega, by omega, fun H1 r e1 hp1 hr1 => ?_⟩
    obtain ⟨xs0, hx0⟩ := hp.lst
    have hl1 : SqL K H1 l xs := by
      rcases hl with (hl | ⟨o, hl⟩) | hl
      · exact .inl (.inl (e1 _ _ hne hl))
      · exact .inl (.inr ⟨o, e1 _ _ hne hl⟩)
      · exact .inr hl
    have hrl : r < xs.length := by omega
    exact ⟨l, _, _, _, rfl, rfl, hl1, atI_nat (List.getElem?_eq_getElem hrl), k H1 _ e1 hp1 (List.getElem_mem hrl)⟩
end
end NS
set_option Elab.async false
set_option linter.all false
set_option maxRecDepth 100000
set_option maxHeartbeats 4000000
/-! The law's names and places. -/
namespace NS
open PySem PySem.Spec PyProof.Rows L2 He
local macro_rules | `(tactic| walk_at "nf") => `(tactic| dsimp only [L2.tNext, L2.tSeq, L2.tDrop, L2.tRet, L2.tRetN, L2.tIfS, L2.tAsg, L2.gName, L2.gCons, L2.gNil, L2.gTup, L2.tOp, L2.tUn, L2.tTest, L2.tChain, L2.tB, L2.tAnd, L2.tOr, L2.tNot, L2.tAndV, L2.tOrV, L2.tNotV, L2.tIf, L2.tCB, L2.tNil, L2.tCons, L2.tTup, L2.tLst, L2.tFld, L2.sFld, L2.tCall, L2.tMeth, L2.tMake, L2.tBM, L2.tBM0, L2.tM1, L2.tM0, L2.tSl, L2.tPart, L2.tNoPart, L2.tPar, L2.tVar, L2.tC, L2.cxOf, L2.tYes, C8.tCut])
/-! ### names -/
def okNm (s : Str) : Bool := decide (1 ≤ s.cps.toList.length) && (decide (s.cps.toList.length ≤ 8) && s.cps.toList.all fun c => signs.contains c)
theorem nm_of {s : Str} (h : okNm s = true) : NameS s := by
  unfold okNm at h
  rw [Bool.and_eq_true, Bool.and_eq_true, decide_eq_true_eq, decide_eq_true_eq, List.all_eq_true] at h
  exact ⟨s.cps.toList, (SX.S_tl s).symm, ⟨h.1, h.2.1, fun c hc => by simpa using h.2.2 c hc⟩⟩
def nmA : List Str := ["a", "ab", "a0", "b", "b0b", "abcdefgh"]
def nmB : List Str := ["0", "00", "000", "1", "a", "10"]
def nmC : List Str := ["place", "row", "self", "first", "order", "none"]
def nmD : List Str := ["r", "w", "x", "rw", "z", "zz"]
/-- six unlike names -/
structure Six (l : List Str) : Prop where
  len : l.length = 6
  nd : l.Nodup
  nm : ∀ s ∈ l, NameS s
theorem six_of {l : List Str} (h : (decide (l.length = 6) && (decide l.Nodup && l.all okNm)) = true) : Six l := by
  rw [Bool.and_eq_true, Bool.and_eq_true, decide_eq_true_eq, decide_eq_true_eq, List.all_eq_true] at h
  exact ⟨h.1, h.2.1, fun s hs => nm_of (h.2.2 s hs)⟩
theorem six_all : ∀ l ∈ [nmA, nmB, nmC, nmD], Six l := by
  intro l hl
  refine six_of ?_
  revert l
  decide +kernel
theorem Six.perm {l m : List Str} (h : Six l) (p : m.Perm l) : Six m := ⟨by rw [p.length_eq]; exact h.len, p.nodup_iff.mpr h.nd, fun s hs => h.nm s (p.mem_iff.mp hs)⟩
theorem eraseIdx_perm {α : Type} : ∀ {l : List α} {k : Nat} {y : α}, l[k]? = some y → (y :: l.eraseIdx k).Perm l
  | [], _, _, h => by simp at h
  | x :: r, 0, y, h => by
    obtain rfl := Option.some.inj h
    exact List.Perm.refl _
  | x :: r, k + 1, y, h => by
    have ih := eraseIdx_perm (l := r) (k := k) (y := y) (by simpa using h)
    rw [List.eraseIdx_cons_succ]
    exact (List.Perm.swap x y _).trans (ih.cons x)
theorem eraseIdx_mapS : ∀ (l : List Str) (k : Nat), (l.map V.str).eraseIdx k = (l.eraseIdx k).map V.str
  | [], _ => rfl
  | _ :: _, 0 => rfl
  | x :: r, k + 1 => by rw [List.map_cons, List.eraseIdx_cons_succ, List.eraseIdx_cons_succ, eraseIdx_mapS r k, List.map_cons]
theorem seqIx {n k : Nat} (h : k < n) : seqIndex? ((k : Nat) : Int) n = some k := (ixN_seq (by unfold ixN; rw [if_pos (by omega), if_pos (by omega)]; simp)).1
/-! ### texts -/
theorem below_txt (ns : List (List Nat)) (n : List Nat) : (if ns = [] then txt ns ++ Str.empty else txt ns ++ "/") ++ SX.S n = txt (ns ++ [n]) := by
  have hcat : ∀ a b : List Nat, SX.S a ++ SX.S b = SX.S (a ++ b) := SX.S_cat
  have he : (Str.empty : Str) = SX.S [] := rfl
  unfold txt
  rw [slash_eq, he, pc_snoc]
  unfold headC
  by_cases h : ns = []
  · subst h
    rw [if_pos rfl, if_pos rfl, hcat, hcat]
    rfl
  · rw [if_neg h, if_neg h, hcat, hcat]
    simp
theorem cnt_app (c : Nat) : ∀ (a b : List Nat), PyProof.Rows.cnt c (a ++ b) = PyProof.Rows.cnt c a + PyProof.Rows.cnt c b
  | [], b => by rw [List.nil_append, PyProof.Rows.cnt_nil, Int.zero_add]
  | x :: a, b => by
    rw [List.cons_append, PyProof.Rows.cnt_cons, PyProof.Rows.cnt_cons, cnt_app c a b]
    omega
theorem cnt_not {c : Nat} : ∀ {a : List Nat}, c ∉ a → PyProof.Rows.cnt c a = 0
  | [], _ => rfl
  | x :: a, h => by
    rw [PyProof.Rows.cnt_cons, if_neg (fun z => h (by rw [z]; exact List.mem_cons_self ..)), cnt_not fun z => h (List.mem_cons_of_mem _ z)]
    rfl
theorem cnt_pc : ∀ {k : Nat} {ns : List (List Nat)}, ns.length = k + 1 → (∀ n ∈ ns, OkN n) → PyProof.Rows.cnt 47 (pc ns) = ((k + 1 : Nat) : Int)
  | k, ns, hk, ho => by
    obtain ⟨r, n, rfl⟩ := snoc_of (l := ns) (fun z => by rw [z] at hk; cases hk)
    rw [pc_snoc, cnt_app, PyProof.Rows.cnt_cons, if_pos rfl, cnt_not (ho n (by simp)).no]
    unfold headC
    rw [List.length_append, List.length_singleton] at hk
    by_cases h : r = []
    · subst h
      rw [if_pos rfl, PyProof.Rows.cnt_nil]
      have : k = 0 := by simpa using hk.symm
      subst this
      rfl
    · rw [if_neg h]
      obtain ⟨j, rfl⟩ : ∃ j, k = j + 1 := ⟨k - 1, by have := List.length_pos_iff.mpr h; omega⟩
      rw [cnt_pc (k := j) (by omega) fun n hn => ho n (List.mem_append_left _ hn)]
      omega
theorem split_txt {ns : List (List Nat)} {n : List Nat} (h : OkP ns) (hn : OkN n) : ((Txt.split (txt (ns ++ [n])) ("/" : Str)).length : Int) = ((ns.length + 2 : Nat) : Int) := by
  have e : ("/" : Str) = ⟨#[47]⟩ := by decide +kernel
  rw [e, PyProof.Rows.split_len]
  show 1 + PyProof.Rows.cnt 47 (pc (ns ++ [n])) = _
  rw [cnt_pc (k := ns.length) (by simp) fun m hm => by
    rcases List.mem_append.mp hm with hm | hm
    · exact h.ok m hm
    · rw [List.mem_singleton.mp hm]; exact hn]
  omega
section
variable {P : Program} {w : World} {K : PySem.W.Frag} {mg : Str → Option Value} {base : Heap}
def sp_law_below : Sp := fun vs H Q _ => ∃ ns n, vs = [.str (txt ns), .str (SX.S n)] ∧ OkP ns ∧ OkN n ∧ Q (.str (txt (ns ++ [n]))) H
theorem sc_law_below : FnScope ["_law_place", "_law_name"] ["_law_place", "_law_name"] (defScope s_law_below) := ⟨rfl, rfl, rfl, by decide +kernel, rfl, by decide +kernel, by decide +kernel⟩
theorem ok_law_below (T : Tx K mg) : C8.Cal P w K mg base 1 "_law_below" sp_law_below [] := by
  refine cal_of T.f_law_below T.g_law_below sc_law_below (fun _ _ _ _ _ _ us hl => match us, hl with | [_, _], _ => rfl) (fun vs H Q E h => ?_) (fun cdv A outer s H vs Q E hr h => ?_)
  · obtain ⟨ns, n, rfl, _⟩ := h
    rfl
  · obtain ⟨ns, n, rfl, hp, hn, k⟩ := h
    have nd := sc_law_below.nd
    refine ⟨_, (pss_one (ps_ret (pe_op op_add_str (pe_op op_add_str (pv 0) (pe_op op_rep_str pe_str (pe_callTy call_int1 (by rfl) T.z_int (by decide +kernel) (pa_cons (pe_cmpR op_ne (pv 0) pe_str (nomark _)) pa_nil)))) (pv 1)))), ?_⟩
    walk_at "nf"
    have hl := txt_len hp
    have hs1 : ("/" : Str).length = 1 := by decide +kernel
    have hnl : (SX.S n).length = n.length := SX.S_len n
    have h8 := hn.le
    have ha1 := Str.length_append (txt ns) ("/" : Str)
    have ha2 := Str.length_append (txt ns) Str.empty
    have he : Str.empty.length = 0 := rfl
    have hb := below_txt ns n
    rw [← hb] at k
    refine ⟨_, rfl, _, rfl, rfl, .inr ⟨_, rfl, ?_⟩⟩
    by_cases h : ns = []
    · rw [if_pos h] at k
      have : decide (V.str (txt ns) = V.str ("/" : Str)) = true := decide_eq_true (by rw [(txt_ne hp.ok).mpr h])
      rw [this]
      simp only [Bool.not_true, Bool.not_false, Bool.false_eq_true, if_false, if_true]
      exact ⟨_, _, rfl, rfl, (rep_no _).1, _, _, rfl, rfl, le_size (by rw [(rep_no _).2, he]; omega), _, rfl, _, _, rfl, rfl, le_size (by rw [(rep_no _).2]; omega), by rw [(rep_no _).2]; exact k⟩
    · rw [if_neg h] at k
      have : decide (V.str (txt ns) = V.str ("/" : Str)) = false := decide_eq_false (fun e => h ((txt_ne hp.ok).mp (V.str.inj e)))
      rw [this]
      simp only [Bool.not_true, Bool.not_false, Bool.false_eq_true, if_false, if_true]
      exact ⟨_, _, rfl, rfl, (rep_one _).1, _, _, rfl, rfl, le_size (by rw [(rep_one _).2]; omega), _, rfl, _, _, rfl, rfl, le_size (by rw [(rep_one _).2]; omega), by rw [(rep_one _).2]; exact k⟩
def sp_law_names : Sp := fun vs H Q _ => ∃ p c N, vs = [.ref p] ∧ PenAt H p c N ∧ N ≤ 900 ∧ ∀ H' l ns, But p H H' → PenAt H' p c (N + 7) → H l = none → l ≠ p → H' l = some (.lst (ns.map V.str)) → Six ns → Q (.ref l) H'
theorem sc_law_names : FnScope ["_law_pen_here", "_law_left", "_law_k"] ["_law_pen_here"] (defScope s_law_names) := ⟨rfl, rfl, rfl, by decide +kernel, rfl, by decide +kernel, by decide +kernel⟩
theorem ok_law_names (T : Tx K mg) : C8.Cal P w K mg base 3 "_law_names" sp_law_names [] := by
  refine cal_of T.f_law_names T.g_law_names sc_law_names (fun _ _ _ _ _ _ us hl => match us, hl with | [_], _ => rfl) (fun vs H Q E h => ?_) (fun cdv A outer s H vs Q E hr h => ?_)
  · obtain ⟨p, c, N, rfl, _⟩ := h
    rfl
  · obtain ⟨p, c, N, rfl, hp, hN, k⟩ := h
    have nd := sc_law_names.nd
    refine ⟨_, (pss_cons (ps_set (i := 1) nd rfl (Or.inr rfl) (pe_callTy call_list_of (by rfl) T.z_list (by decide +kernel) (pa_cons (C8.pe_c (ok_law_pick T) hr (by decide) rfl (pa_cons (pv 0) (pa_cons (pe_lst (pa_cons (pe_lst (pa_cons pe_str (pa_cons pe_str (pa_cons pe_str (pa_cons pe_str (pa_cons pe_str (pa_cons pe_str pa_nil))))))) (pa_cons (pe_lst (pa_cons pe_str (pa_cons pe_str (pa_cons pe_str (pa_cons pe_str (pa_cons pe_str (pa_cons pe_str pa_nil))))))) (pa_cons (pe_lst (pa_cons pe_str (pa_cons pe_str (pa_cons pe_str (pa_cons pe_str (pa_cons pe_str (pa_cons pe_str pa_nil))))))) (pa_cons (pe_lst (pa_cons pe_str (pa_cons pe_str (pa_cons pe_str (pa_cons pe_str (pa_cons pe_str (pa_cons pe_str pa_nil))))))) pa_nil))))) pa_nil))) pa_nil)))
      (pss_one (ps_ret (pe_lc (own := [("_law_k", 2)]) rfl nd (pi_range1 rfl T.z_range (pa_cons pe_int pa_nil)) (blkOk_by (by kernel_rfl)) (fun _ _ _ _ _ => (pg_name (i := 2) nd rfl (Or.inl rfl))) (fun _ _ _ _ _ => pts_nil) (fun _ _ _ _ _ => (show PE _ _ (tBM K "list" rPopAt _ _) from (pe_bm PySem.F.plainAttrs_list PySem.F.slot_list_pop PySem.F.type_list_pop mt_popAt (pv 1) (pa_cons (C8.pe_c (ok_law_draw T) hr (by decide) rfl (pa_cons (pv 0) (pa_cons (pe_callB (show CallR _ (.builtin "len") (rLenSeq K) from call_len_seq) (by rfl) T.z_len (by decide +kernel) (pa_cons (pv 1) pa_nil)) pa_nil))) pa_nil)))))))), ?_⟩
    walk_at "nf"
    obtain ⟨xs0, hx0⟩ := hp.lst
    refine ⟨_, rfl, (by show 6 ≤ sizeLine; decide), fun a1 n1 => ⟨(by show 6 ≤ sizeLine; decide), fun a2 n2 => ⟨(by show 6 ≤ sizeLine; decide), fun a3 n3 => ⟨(by show 6 ≤ sizeLine; decide), fun a4 n4 => ⟨(by show 4 ≤ sizeLine; decide), fun l nl => ?_⟩⟩⟩⟩⟩
    have e1 : Same H (upd H a1 (.lst (nmA.map V.str))) := (Same.refl _).new n1
    have e2 : Same (upd H a1 (.lst (nmA.map V.str))) _ := (Same.refl _).new (o := .lst (nmB.map V.str)) n2
    have e3 : Same _ _ := (Same.refl (upd (upd H a1 (.lst (nmA.map V.str))) a2 (.lst (nmB.map V.str)))).new (o := .lst (nmC.map V.str)) n3
    have e4 : Same _ _ := (Same.refl (upd (upd (upd H a1 (.lst (nmA.map V.str))) a2 (.lst (nmB.map V.str))) a3 (.lst (nmC.map V.str)))).new (o := .lst (nmD.map V.str)) n4
    have e5 : Same _ _ := (Same.refl (upd (upd (upd (upd H a1 (.lst (nmA.map V.str))) a2 (.lst (nmB.map V.str))) a3 (.lst (nmC.map V.str))) a4 (.lst (nmD.map V.str)))).new (o := .lst [.ref a1, .ref a2, .ref a3, .ref a4]) nl
    have q1 := (e2.trans (e3.trans (e4.trans e5))) _ _ (upd_same (H := H) (a := a1))
    have q2 := (e3.trans (e4.trans e5)) _ _ (upd_same (a := a2))
    have q3 := (e4.trans e5) _ _ (upd_same (a := a3))
    have q4 := e5 _ _ (upd_same (a := a4))
    have e0 := e1.trans (e2.trans (e3.trans (e4.trans e5)))
    have hne : ∀ a, H a = none → a ≠ p := fun a ha z => by rw [z, hx0] at ha; cases ha
    have m1 : a1 ≠ p := hne a1 n1
    have m2 : a2 ≠ p := hne a2 (e1.free n2)
    have m3 : a3 ≠ p := hne a3 ((e1.trans e2).free n3)
    have m4 : a4 ≠ p := hne a4 ((e1.trans (e2.trans e3)).free n4)
    have m5 : l ≠ p := hne l ((e1.trans (e2.trans (e3.trans e4))).free nl)
    refine ⟨p, c, N, l, [.ref a1, .ref a2, .ref a3, .ref a4], rfl, Same.pen e0 hp, by omega, SqL.of upd_same, m5, (by show 0 < 4; decide), (by show 4 ≤ 1000; decide), fun H2 x b2 hp2 hx => ?_⟩
    obtain ⟨a, nm, rfl, h6, ha⟩ : ∃ a nm, x = .ref a ∧ Six nm ∧ H2 a = some (.lst (nm.map V.str)) := by
      rcases List.mem_cons.mp hx with rfl | hx
      · exact ⟨a1, nmA, rfl, six_all _ (by simp), b2 _ _ m1 q1⟩
      · rcases List.mem_cons.mp hx with rfl | hx
        · exact ⟨a2, nmB, rfl, six_all _ (by simp), b2 _ _ m2 q2⟩
        · rcases List.mem_cons.mp hx with rfl | hx
          · exact ⟨a3, nmC, rfl, six_all _ (by simp), b2 _ _ m3 q3⟩
          · obtain rfl := List.mem_singleton.mp hx
            exact ⟨a4, nmD, rfl, six_all _ (by simp), b2 _ _ m4 q4⟩
    have b02 : But p H H2 := (Same.but e0).trans b2
    clear b2 q1 q2 q3 q4 e0 e1 e2 e3 e4 e5 n2 n3 n4 nl
    refine ⟨a, nm.map V.str, rfl, .inl (SqL.of ha), fun L hL => ⟨_, rfl, by decide, by decide, fun D hD => ?_⟩⟩
    have eL : Same H2 (upd H2 L (.lst (nm.map V.str))) := (Same.refl _).new hL
    have hLL : upd H2 L (.lst (nm.map V.str)) L = some (.lst (nm.map V.str)) := upd_same
    have hLp : L ≠ p := fun z => by obtain ⟨xs, hxs⟩ := hp2.lst; rw [z, hxs] at hL; cases hL
    have hp3 := Same.pen eL hp2
    have b03 := b02.trans (Same.but eL)
    generalize upd H2 L (.lst (nm.map V.str)) = H3 at eL hLL hD hp3 b03
    have hDL : D ≠ L := fun z => by rw [z, hLL] at hD; cases hD
    have hDp : D ≠ p := fun z => by obtain ⟨xs, hxs⟩ := hp3.lst; rw [z, hxs] at hD; cases hD
    have hD0 : H D = none := b03.free hD hp3.lst_some
    have hL0 : H L = none := b02.free hL hp2.lst_some
    obtain ⟨hDc, _⟩ := hp3.new hD
    have hLc := (hp2.new hL).1
    have eD : Same H3 (upd H3 D (.lst [])) := (Same.refl _).new hD
    refine lc_it (walk_rngL (n := 6)) (fun i H' => ∃ acc rest : List Str, H' D = some (.lst (acc.map V.str)) ∧ H' L = some (.lst (rest.map V.str)) ∧ (acc ++ rest).Perm nm ∧ acc.length = i ∧ But p H H' ∧ PenAt H' p c (N + 1 + i)) ⟨[], nm, upd_same, eD _ _ hLL, List.Perm.refl _, rfl, b03.trans (Same.but eD), Same.pen eD hp3⟩ (fun i H' _ _ => True.intro) ?_ ?_
    · rintro i v H4 H5 hi ⟨acc, rest, hD4, hL4, hpm, hal, b4, hp4⟩ ⟨rfl, rfl⟩
      have hrl : rest.length = 6 - i := by
        have := hpm.length_eq
        rw [List.length_append, h6.len] at this
        omega
      walk_at "nf"
      refine ⟨rfl, ?_⟩
      rw [if_pos rfl]
      refine ⟨_, rfl, .inl ⟨rfl, _, SqL.of hL4⟩, _, rfl, _, rfl, L, _, rfl, .inl (SqL.of hL4), p, c, N + 1 + i, _, rfl, hp4, by omega, by rw [List.length_map]; omega, by rw [List.length_map]; omega, fun H6 r b6 hp6 hr6 => ?_⟩
      rw [List.length_map] at hr6
      have hrr : r < rest.length := by omega
      obtain ⟨y, hy⟩ : ∃ y, rest[r]? = some y := ⟨_, List.getElem?_eq_getElem hrr⟩
      have hL6 := b6 _ _ hLp hL4
      have hD6 := b6 _ _ hDp hD4
      refine ⟨L, _, _, r, .str y, rfl, rfl, hL6, by omega, by omega, by rw [List.length_map]; exact seqIx hrr, by rw [List.getElem?_map, hy]; rfl, ?_⟩
      rw [eraseIdx_mapS]
      have hD7 : upd H6 L (.lst ((rest.eraseIdx r).map V.str)) D = some (.lst (acc.map V.str)) := (upd_ne hDL).trans hD6
      refine ⟨_, hD7, by rw [List.length_map]; exact lt_size (by omega), acc ++ [y], rest.eraseIdx r, by rw [upd_same, List.map_append]; rfl, by rw [upd_ne hDL.symm, upd_same], ?_, by rw [List.length_append, hal]; rfl, ?_, ?_⟩
      · rw [List.append_assoc]
        exact ((eraseIdx_perm hy).append_left acc).trans hpm
      · intro b o hb h
        rw [upd_ne (fun z => by rw [z, hD0] at h; cases h), upd_ne (fun z => by rw [z, hL0] at h; cases h)]
        exact (b4.trans b6) b o hb h
      · exact (hp6.put hLc hLp).put hDc hDp
    · rintro H4 ⟨acc, rest, hD4, hL4, hpm, hal, b4, hp4⟩
      have hrl : rest.length = 0 := by
        have := hpm.length_eq
        rw [List.length_append, h6.len, hal] at this
        omega
      have : rest = [] := List.length_eq_zero_iff.mp hrl
      subst this
      rw [List.append_nil] at hpm
      exact k H4 D acc b4 hp4 hD0 hDp hD4 (h6.perm hpm)
end
end NS
set_option Elab.async false
set_option linter.all false
set_option maxRecDepth 100000
set_option maxHeartbeats 4000000
/-! The law's places. -/
namespace NS
open PySem PySem.Spec PyProof.Rows L2 He
local macro_rules | `(tactic| walk_at "nf") => `(tactic| dsimp only [L2.tNext, L2.tSeq, L2.tDrop, L2.tRet, L2.tRetN, L2.tIfS, L2.tAsg, L2.gName, L2.gCons, L2.gNil, L2.gTup, L2.tOp, L2.tUn, L2.tTest, L2.tChain, L2.tB, L2.tAnd, L2.tOr, L2.tNot, L2.tAndV, L2.tOrV, L2.tNotV, L2.tIf, L2.tCB, L2.tNil, L2.tCons, L2.tTup, L2.tLst, L2.tFld, L2.sFld, L2.tCall, L2.tMeth, L2.tMake, L2.tBM, L2.tBM0, L2.tM1, L2.tM0, L2.tSl, L2.tPart, L2.tNoPart, L2.tPar, L2.tVar, L2.tC, L2.cxOf, L2.tYes, C8.tCut])
theorem But.sqlN {K : PySem.W.Frag} {p a : Addr} {H H' : Hp} {xs : List V} (b : But p H H') (hne : a ≠ p) (h : SqL K H a xs) : SqL K H' a xs := by
  rcases h with (h | ⟨o, h⟩) | h
  · exact .inl (.inl (b _ _ hne h))
  · exact .inl (.inr ⟨o, b _ _ hne h⟩)
  · exact .inr h
theorem But.mut {p D : Addr} {H H' : Hp} {o : HO} (b : But p H H') (hD : H D = none) : But p H (upd H' D o) := fun a u ha h => by
  rw [upd_ne (fun z => by rw [z, hD] at h; cases h)]
  exact b a u ha h
theorem last_of {l : List Str} (h : l ≠ []) : ∃ r x, l = r ++ [x] := snoc_of h
section
variable {P : Program} {w : World} {K : PySem.W.Frag} {mg : Str → Option Value} {base : Heap}
def sp_law_places (K : PySem.W.Frag) : Sp := fun vs H Q _ => ∃ p c N nm, ∃ names : List Str, vs = [.ref p, .ref nm, .int 5] ∧ PenAt H p c N ∧ N ≤ 900 ∧ SqL K H nm (names.map V.str) ∧ nm ≠ p ∧ 1 ≤ names.length ∧ names.length ≤ 10 ∧ (∀ s ∈ names, NameS s) ∧
  ∀ H' l, ∀ ps : List Str, But p H H' → PenAt H' p c (N + 15) → H l = none → l ≠ p → l ≠ c → H' l = some (.lst (ps.map V.str)) → ps.Pairwise ltS → ps.length ≤ 6 → (∀ q ∈ ps, PlaceS q) → Q (.ref l) H'
theorem sc_law_places : FnScope ["_law_pen_here", "_law_names_here", "_law_top", "_law_found", "_law_turn", "_law_above_here", "_law_place"] ["_law_pen_here", "_law_names_here", "_law_top"] (defScope s_law_places) := ⟨rfl, rfl, rfl, by decide +kernel, rfl, by decide +kernel, by decide +kernel⟩
theorem ok_law_places (T : Tx K mg) : C8.Cal P w K mg base 3 "_law_places" (sp_law_places K) [] := by
  refine cal_of T.f_law_places T.g_law_places sc_law_places (fun _ _ _ _ _ _ us hl => match us, hl with | [_, _, _], _ => rfl) (fun vs H Q E h => ?_) (fun cdv A outer s H vs Q E hr h => ?_)
  · obtain ⟨p, c, N, nm, names, rfl, _⟩ := h
    rfl
  · obtain ⟨p, c, N, nm, names, rfl, hp, hN, hnm, hnp, hl1, hl2, hnn, k⟩ := h
    have nd := sc_law_places.nd
    refine ⟨_, (pss_cons (ps_set (i := 3) nd rfl (Or.inl rfl) (pe_lst (pa_cons pe_str pa_nil)))
      (pss_cons (ps_for PassesOwn.never rfl (pi_range1 rfl T.z_range (pa_cons (pv 2) pa_nil)) (pg_name (i := 4) nd rfl (Or.inl rfl))
      (pss_cons (ps_set (i := 5) nd rfl (Or.inl rfl) (C8.pe_c (ok_law_pick T) hr (by decide) rfl (pa_cons (pv 0) (pa_cons (pe_lst (pa_cons (pe_ix ix_list (pv 3) (pe_un un_neg pe_int) (fun _ _ => rfl)) (pa_cons (pe_ix ix_list (pv 3) (C8.pe_c (ok_law_draw T) hr (by decide) rfl (pa_cons (pv 0) (pa_cons (pe_callB call_len_seq (by rfl) T.z_len (by decide +kernel) (pa_cons (pv 3) pa_nil)) pa_nil))) (fun _ _ => rfl)) pa_nil))) pa_nil))))
      (pss_cons (ps_set (i := 6) nd rfl (Or.inl rfl) (C8.pe_c (ok_law_below T) hr (by decide) rfl (pa_cons (pv 5) (pa_cons (C8.pe_c (ok_law_pick T) hr (by decide) rfl (pa_cons (pv 0) (pa_cons (pv 1) pa_nil))) pa_nil))))
      (pss_one (ps_if (PW.pt (pw_and (pt_cmpR op_notIn_seq (pv 6) (pv 3) (by rfl)) (pw_and1 (pt_cmpR op_lt (pe_callB call_len_seq (by rfl) T.z_len (by decide +kernel) (pa_cons (pe_split (pv 6) pe_str) pa_nil)) pe_int (nomark _))))) (pss_one (ps_expr (pe_bm PySem.F.plainAttrs_list PySem.F.slot_list_append PySem.F.type_list_append mt_append (pv 3) (pa_cons (pv 6) pa_nil)))) pss_nil)))))
      (pss_one (ps_ret (pe_callB cr_sortedS (by rfl) T.z_sorted (by decide +kernel) (pa_cons (pe_lc (own := [("_law_place", 6)]) rfl nd (pi_list (pv 3)) (blkOk_by (by kernel_rfl)) (fun _ _ _ _ _ => (pg_name (i := 6) nd rfl (Or.inl rfl))) (fun _ _ _ _ _ => pts_nil) (fun _ _ _ _ _ => (pe_callTy SkE.call_str_str (by rfl) T.z_str (by decide +kernel) (pa_cons (pv 6) pa_nil)))) pa_nil)))))), ?_⟩
    walk_at "nf"
    refine ⟨(by show 1 ≤ sizeLine; decide), fun F hF => ⟨_, rfl, _, rfl, by decide, by decide, ?_⟩⟩
    obtain ⟨hFc, hFp⟩ := hp.new hF
    have eF : Same H (upd H F (.lst [.str "/"])) := (Same.refl _).new hF
    have hroot : PlaceS ("/" : Str) := ⟨[], by rw [slash_eq]; rfl, ⟨by decide, fun n hn => by cases hn⟩⟩
    refine for_it (walk_rngL (n := 5)) (fun i σ H' => ∃ (pl : List Str) (o4 o5 o6 : Option V), σ = [some (.ref p), some (.ref nm), some (.int 5), some (.ref F), o4, o5, o6] ∧ But p H H' ∧ PenAt H' p c (N + 3 * i) ∧ H' F = some (.lst (pl.map V.str)) ∧ pl.Nodup ∧ pl ≠ [] ∧ pl.length ≤ 1 + i ∧ ∀ q ∈ pl, PlaceS q)
      ⟨["/"], none, none, none, rfl, Same.but eF, Same.pen eF hp, upd_same, by simp, by simp, by simp, fun q hq => by rw [List.mem_singleton.mp hq]; exact hroot⟩ (fun i σ H' _ _ => True.intro) ?_ ?_
    · rintro i v σ H1 H2 hi ⟨pl, o4, o5, o6, rfl, b1, hp1, h1F, hpn, hpe, hpl, hpp⟩ ⟨rfl, rfl⟩
      obtain ⟨r0, x0, hx0⟩ := last_of hpe
      have hml : pl.map V.str = r0.map V.str ++ [.str x0] := by rw [hx0, List.map_append]; rfl
      have hat : atI (pl.map V.str) (-1) = some (.str x0) := by rw [hml]; exact atI_last _ _
      walk_at "nf"
      refine ⟨_, rfl, _, rfl, 1, rfl, F, _, _, _, rfl, rfl, SqL.of h1F, hat, ?_⟩
      refine ⟨_, rfl, _, rfl, _, rfl, F, _, rfl, .inl (SqL.of h1F), p, c, N + 3 * i, _, rfl, hp1, by omega, by rw [List.length_map]; have := List.length_pos_iff.mpr hpe; omega, by rw [List.length_map]; omega, fun H3 r b3 hp3 hr3 => ?_⟩
      rw [List.length_map] at hr3
      have hrr : r < pl.length := by omega
      have h3F := b3 _ _ hFp h1F
      obtain ⟨y, hy⟩ : ∃ y, pl[r]? = some y := ⟨_, List.getElem?_eq_getElem hrr⟩
      refine ⟨F, _, _, _, rfl, rfl, SqL.of h3F, atI_nat (by rw [List.getElem?_map, hy]; rfl), (by show 2 ≤ sizeLine; decide), fun l hl => ?_⟩
      obtain ⟨hlc, hlp⟩ := hp3.new hl
      have eL : Same H3 (upd H3 l (.lst [.str x0, .str y])) := (Same.refl _).new hl
      refine ⟨p, c, N + 3 * i + 1, l, [.str x0, .str y], rfl, Same.pen eL hp3, by omega, SqL.of upd_same, hlp, (by show 0 < 2; decide), (by show 2 ≤ 1000; decide), fun H4 x b4 hp4 hx => ?_⟩
      obtain ⟨ab, rfl, hab⟩ : ∃ ab, x = .str ab ∧ ab ∈ pl := by
        rcases List.mem_cons.mp hx with rfl | hx
        · exact ⟨x0, rfl, by rw [hx0]; simp⟩
        · obtain rfl := List.mem_singleton.mp hx
          exact ⟨y, rfl, List.mem_of_getElem? hy⟩
      have b14 : But p H2 H4 := b3.trans ((Same.but eL).trans b4)
      have h4F := b14 _ _ hFp h1F
      have hnm4 := (b1.trans b14).sqlN hnp hnm
      refine ⟨_, rfl, _, rfl, _, rfl, p, c, N + 3 * i + 2, nm, _, rfl, hp4, by omega, hnm4, hnp, by rw [List.length_map]; omega, by rw [List.length_map]; omega, fun H5 x b5 hp5 hx => ?_⟩
      obtain ⟨nS, hnS, rfl⟩ := List.mem_map.mp hx
      obtain ⟨n, rfl, hn⟩ := hnn nS hnS
      obtain ⟨ns, rfl, hok⟩ := hpp ab hab
      have h5F := b5 _ _ hFp h4F
      have b15 := b14.trans b5
      have fin : ∀ {H' : Hp} {σ' : L2.St}, Same H5 H' → (∃ o4 o5 o6 : Option V, σ' = [some (.ref p), some (.ref nm), some (.int 5), some (.ref F), o4, o5, o6]) → ∃ (pl : List Str) (o4 o5 o6 : Option V), σ' = [some (.ref p), some (.ref nm), some (.int 5), some (.ref F), o4, o5, o6] ∧ But p H H' ∧ PenAt H' p c (N + 3 * (i + 1)) ∧ H' F = some (.lst (pl.map V.str)) ∧ pl.Nodup ∧ pl ≠ [] ∧ pl.length ≤ 1 + (i + 1) ∧ ∀ q ∈ pl, PlaceS q :=
        fun e ⟨o4, o5, o6, hσ⟩ => ⟨pl, o4, o5, o6, hσ, (b1.trans b15).trans (Same.but e), (Same.pen e hp5).mono (by omega), e _ _ h5F, hpn, hpe, by omega, hpp⟩
      refine ⟨ns, n, rfl, hok, hn, ?_⟩
      refine ⟨_, rfl, _, rfl, F, _, rfl, .inl (SqL.of h5F), rfl, flat_strV pl, ?_⟩
      rw [if_pos rfl, inV_str]
      refine ⟨_, rfl, ?_⟩
      by_cases hin : txt (ns ++ [n]) ∈ pl
      · rw [decide_eq_true hin]
        exact iteF (iteF (fin (Same.refl _) ⟨_, _, _, rfl⟩))
      · rw [decide_eq_false hin]
        have hl9 : (txt (ns ++ [n])).length + 2 ≤ 1000 := by
          have h1 := txt_len hok
          have h2 : (txt (ns ++ [n])).length = (pc (ns ++ [n])).length := SX.S_len _
          have h3 : (txt ns).length = (pc ns).length := SX.S_len _
          have h4 := hn.le
          rw [h2, pc_snoc]
          unfold headC
          split
          · simp; omega
          · rw [List.length_append, List.length_cons]; omega
        refine iteT ⟨_, rfl, ⟨_, rfl⟩, _, _, rfl, rfl, by decide +kernel, le_size hl9, fun q hq => ⟨q, _, rfl, .inl (SqL.of upd_same), _, _, rfl, rfl, _, rfl, ?_⟩⟩
        have eq1 : Same H5 (upd H5 q (.lst ((Txt.split (txt (ns ++ [n])) "/").map V.str))) := (Same.refl _).new hq
        generalize upd H5 q (.lst ((Txt.split (txt (ns ++ [n])) "/").map V.str)) = H6 at eq1
        rw [List.length_map, split_txt hok hn]
        by_cases h8 : ns.length + 2 < 10
        · rw [decide_eq_true (show ((ns.length + 2 : Nat) : Int) < 10 by omega)]
          have h6F := eq1 _ _ h5F
          have hok2 : OkP (ns ++ [n]) := ⟨by rw [List.length_append, List.length_singleton]; omega, fun m hm => by
            rcases List.mem_append.mp hm with hm | hm
            · exact hok.ok m hm
            · rw [List.mem_singleton.mp hm]; exact hn⟩
          refine iteT ⟨_, rfl, .inl ⟨rfl, _, SqL.of h6F⟩, _, rfl, F, _, _, rfl, rfl, h6F, by rw [List.length_map]; exact lt_size (by omega), pl ++ [txt (ns ++ [n])], _, _, _, rfl, ((b1.trans b15).trans (Same.but eq1)).mut hF, ((Same.pen eq1 hp5).put hFc hFp).mono (by omega), by rw [upd_same, List.map_append]; rfl, ?_, by simp, by rw [List.length_append, List.length_singleton]; omega, fun z hz => ?_⟩
          · rw [List.nodup_append]
            exact ⟨hpn, by simp, fun a ha b hb e => hin (by rw [← List.mem_singleton.mp hb, ← e]; exact ha)⟩
          · rcases List.mem_append.mp hz with hz | hz
            · exact hpp z hz
            · rw [List.mem_singleton.mp hz]
              exact ⟨_, rfl, hok2⟩
        · rw [decide_eq_false (show ¬ ((ns.length + 2 : Nat) : Int) < 10 by omega)]
          exact iteF (fin eq1 ⟨_, _, _, rfl⟩)
    · rintro σ H1 ⟨pl, o4, o5, o6, rfl, b1, hp1, h1F, hpn, hpe, hpl, hpp⟩
      walk_at "nf"
      refine ⟨_, rfl, F, rfl, ⟨_, SqL.of h1F⟩, fun D hD => ?_⟩
      refine lc_go (walk_list (xs := pl.map V.str)) hD (fun i acc _ => acc = (pl.take i).map V.str) (fun H6 e6 => SqL.of (e6 _ _ h1F)) rfl ?_ ?_
      · rintro i v H4 H5 acc hi e hDD hlen hacc ⟨rfl, hv⟩
        obtain ⟨q, hq, rfl⟩ := get_map_str hv
        rw [List.length_map] at hi
        walk_at "nf"
        refine ⟨rfl, ?_⟩
        rw [if_pos rfl]
        refine ⟨_, rfl, _, rfl, lc_put hD hDD e hlen (by omega) id ?_⟩
        rw [hacc, List.take_succ, hq, List.map_append]
        rfl
      · rintro H4 acc e hDD hacc
        rw [List.length_map, List.take_length] at hacc
        subst hacc
        refine ⟨D, pl, rfl, SqL.of hDD, by omega, fun ys q hys hst hq => ?_⟩
        obtain rfl : ys = usrt pl := sorted_usrt hys hst hpn
        have e2 := e.new (o := .lst ((usrt pl).map V.str)) hq
        have hH : H q = none := b1.free (e.free hq) hp1.lst_some
        obtain ⟨hqc, hqp⟩ := (Same.pen e hp1).new hq
        exact k _ q (usrt pl) (b1.trans (Same.but e2)) ((Same.pen e2 hp1).mono (by omega)) hH hqp hqc upd_same (pw_usrt _) (by rw [hys.length_eq]; omega) fun z hz => hpp z (hys.mem_iff.mp hz)
end
end NS
set_option Elab.async false
set_option linter.all false
set_option maxRecDepth 100000
set_option maxHeartbeats 4000000
/-! Steps: made, found. -/
namespace NS
open PySem PySem.Spec PyProof.Rows L2 He
local macro_rules | `(tactic| walk_at "nf") => `(tactic| dsimp only [L2.tNext, L2.tSeq, L2.tDrop, L2.tRet, L2.tRetN, L2.tIfS, L2.tAsg, L2.gName, L2.gCons, L2.gNil, L2.gTup, L2.tOp, L2.tUn, L2.tTest, L2.tChain, L2.tB, L2.tAnd, L2.tOr, L2.tNot, L2.tAndV, L2.tOrV, L2.tNotV, L2.tIf, L2.tCB, L2.tNil, L2.tCons, L2.tTup, L2.tLst, L2.tFld, L2.sFld, L2.tCall, L2.tMeth, L2.tMake, L2.tBM, L2.tBM0, L2.tM1, L2.tM0, L2.tSl, L2.tPart, L2.tNoPart, L2.tPar, L2.tVar, L2.tC, L2.cxOf, L2.tYes, C8.tCut])
structure StepAt (K : PySem.W.Frag) (H : Hp) (a : Addr) (w p : Str) (cols : List Str) : Prop where
  ex : ∃ C dx ct h, H a = some (.ins C dx [("word", .str w), ("place", .str p), ("columns", .ref ct), ("held", .ref h)]) ∧ Cls K C ∧ NoAttr K C "word" ∧ NoAttr K C "place" ∧ NoAttr K C "columns" ∧ SqT K H ct (cols.map V.str)
theorem Same.step {K : PySem.W.Frag} {H H' : Hp} {a : Addr} {w p : Str} {cols : List Str} (e : Same H H') (h : StepAt K H a w p cols) : StepAt K H' a w p cols := by
  obtain ⟨C, dx, ct, hh, h1, h2, h3, h4, h5, h6⟩ := h.ex
  exact ⟨C, dx, ct, hh, e _ _ h1, h2, h3, h4, h5, Same.tup e h6⟩
theorem putF_nil {f : Str} {v : V} : putF f v [] = [(f, v)] := rfl
theorem putF_ne {f g : Str} {v x : V} {r : List (Str × V)} (h : ¬ g = f) : putF f v ((g, x) :: r) = (g, x) :: putF f v r := by
  show (if g = f then _ else _) = _
  rw [if_neg h]
theorem putF_eq {f : Str} {v x : V} {r : List (Str × V)} : putF f v ((f, x) :: r) = (f, v) :: r := by
  show (if f = f then _ else _) = _
  rw [if_pos rfl]
section
variable {P : Program} {w : World} {K : PySem.W.Frag} {mg : Str → Option Value} {base : Heap}
def sp_Step_init (K : PySem.W.Frag) (C : Addr) (word : Str) : Sp := fun vs H Q _ => ∃ s dx p ca b f cols, vs = [.ref s, .str p, .ref ca, .ref b, .ref f] ∧ H s = some (.ins C dx []) ∧ SqT K H ca (cols.map V.str) ∧ ∀ H', But s H H' → StepAt K H' s word p cols → Q .non H'
theorem sc_Step_init : FnScope ["self", "place", "columns", "before", "after"] ["self", "place", "columns", "before", "after"] (defScope sStep_init) := ⟨rfl, rfl, rfl, by decide +kernel, rfl, by decide +kernel, by decide +kernel⟩
theorem step_init {c : Str} {word : Str} (mk : Mk K (ga K c) (ma K (ga K c) "__init__")) (hm : mg c = some (.ref (ga K c))) (hF : ∃ fd, FunD K "__init__" "Step.__init__" (defArgs sStep_init) (defBody sStep_init) (defScope sStep_init) [] [] (ma K (ga K c) "__init__") fd)
    (cl : Cls K (ga K c)) (n1 : NoAttr K (ga K c) "word") (n2 : NoAttr K (ga K c) "place") (n3 : NoAttr K (ga K c) "columns") (n4 : NoAttr K (ga K c) "held") (hw : ∃ u, Con K (ga K c) "WORD" (.str word) u) :
    C8.Mak P w K mg base 1 c (ga K c) (sp_Step_init K (ga K c) word) [] := by
  refine mak_of mk hm hF sc_Step_init (fun _ _ _ _ _ _ us hl => match us, hl with | [_, _, _, _, _], _ => rfl) (fun vs H Q E h => ?_) (fun cdv A outer s H vs Q E hr h => ?_)
  · obtain ⟨s, dx, p, ca, b, f, cols, rfl, _⟩ := h
    rfl
  · obtain ⟨s, dx, p, ca, b, f, cols, rfl, hs, hca, k⟩ := h
    have nd := sc_Step_init.nd
    obtain ⟨u, hcon⟩ := hw
    refine ⟨_, (pss_cons (ps_fld (pv 0) (pe_con (pv 0) rfl) rfl)
      (pss_cons (ps_fld (pv 0) (pv 1) rfl)
      (pss_cons (ps_fld (pv 0) (pv 2) rfl)
      (pss_one (ps_fld (pv 0) (pe_tup (pa_cons (pv 3) (pa_cons (pv 4) pa_nil))) rfl))))), ?_⟩
    walk_at "nf"
    have d1 : ¬ ("word" : Str) = "place" := by decide +kernel
    have d2 : ¬ ("word" : Str) = "columns" := by decide +kernel
    have d3 : ¬ ("place" : Str) = "columns" := by decide +kernel
    have d4 : ¬ ("word" : Str) = "held" := by decide +kernel
    have d5 : ¬ ("place" : Str) = "held" := by decide +kernel
    have d6 : ¬ ("columns" : Str) = "held" := by decide +kernel
    refine ⟨_, rfl, s, _, dx, _, _, u, rfl, hs, cl, hcon, rfl, _, rfl, s, _, dx, _, rfl, hs, cl, n1, by decide, ?_⟩
    rw [putF_nil]
    refine ⟨_, rfl, _, rfl, s, _, dx, _, rfl, upd_same, cl, n2, (by show 1 < 1000; decide), ?_⟩
    rw [putF_ne d1, putF_nil, upd_upd']
    refine ⟨_, rfl, _, rfl, s, _, dx, _, rfl, upd_same, cl, n3, (by show 2 < 1000; decide), ?_⟩
    rw [putF_ne d2, putF_ne d3, putF_nil, upd_upd']
    have e1 : But s H (upd H s (.ins (ga K c) dx [("word", .str word), ("place", .str p), ("columns", .ref ca)])) := But.put
    have h1 : (upd H s (.ins (ga K c) dx [("word", .str word), ("place", .str p), ("columns", .ref ca)])) s = some (.ins (ga K c) dx [("word", .str word), ("place", .str p), ("columns", .ref ca)]) := upd_same
    generalize upd H s (.ins (ga K c) dx [("word", .str word), ("place", .str p), ("columns", .ref ca)]) = H1 at e1 h1 ⊢
    refine ⟨_, rfl, _, rfl, (by show 2 ≤ sizeLine; decide), fun t ht => ?_⟩
    have nst : s ≠ t := ne_of_none h1 ht
    refine ⟨_, rfl, s, _, dx, _, rfl, (upd_ne nst).trans h1, cl, n4, (by show 3 < 1000; decide), ?_⟩
    rw [putF_ne d4, putF_ne d5, putF_ne d6, putF_nil]
    have e2 : But s H (upd (upd H1 t (.tup [.ref b, .ref f])) s (.ins (ga K c) dx [("word", .str word), ("place", .str p), ("columns", .ref ca), ("held", .ref t)])) := (e1.trans (Same.but ((Same.refl _).new ht))).trans But.put
    exact k _ e2 ⟨ga K c, dx, ca, t, upd_same, cl, n1, n2, n3, e2.sqt hs hca⟩
theorem ok_Put_init (T : Tx K mg) : C8.Mak P w K mg base 1 "Put" (ga K "Put") (sp_Step_init K (ga K "Put") "put") [] :=
  step_init T.mk_Put T.g_Put T.f_Put_init T.cl_Put T.n_Put_word T.n_Put_place T.n_Put_columns T.n_Put_held T.w_Put
theorem ok_Take_init (T : Tx K mg) : C8.Mak P w K mg base 1 "Take" (ga K "Take") (sp_Step_init K (ga K "Take") "take") [] :=
  step_init T.mk_Take T.g_Take T.f_Take_init T.cl_Take T.n_Take_word T.n_Take_place T.n_Take_columns T.n_Take_held T.w_Take
theorem ok_Edit_init (T : Tx K mg) : C8.Mak P w K mg base 1 "Edit" (ga K "Edit") (sp_Step_init K (ga K "Edit") "edit") [] :=
  step_init T.mk_Edit T.g_Edit T.f_Edit_init T.cl_Edit T.n_Edit_word T.n_Edit_place T.n_Edit_columns T.n_Edit_held T.w_Edit
theorem go_Step {C : Addr} {word p : Str} {H : Hp} {a b f : Addr} {cols : List Str} {Q : VK} {E : XK} (ha : SqT K H a (cols.map V.str))
    (k : ∀ H' s, Same H H' → H s = none → StepAt K H' s word p cols → Q (.ref s) H') (x dx : Addr) (hx : H x = none) (hdx : H dx = none) (hne : dx ≠ x) :
    sp_Step_init K C word [.ref x, .str p, .ref a, .ref b, .ref f] (upd (upd H dx (.own x)) x (.ins C dx [])) (fun v H2 => v = .non ∧ Q (.ref x) H2) E := by
  have e : Same H (upd (upd H dx (.own x)) x (.ins C dx [])) := ((Same.refl _).new hdx).new (by rw [upd_ne (Ne.symm hne)]; exact hx)
  exact ⟨x, dx, p, a, b, f, cols, rfl, upd_same, Same.tup e ha, fun H' eb hs => ⟨rfl, k H' x (made_same hx hdx eb) hx hs⟩⟩
/-! ### step_of -/
def sp_step_of (K : PySem.W.Frag) : Sp := fun vs H Q _ => ∃ wd st p ca b f cols, vs = [.str wd, .ref st, .ref b, .ref f] ∧ SqT K H st [.str p, .ref ca] ∧ SqT K H ca (cols.map V.str) ∧ (wd = "put" ∨ wd = "take" ∨ wd = "edit") ∧
  ∀ H' s, Same H H' → H s = none → StepAt K H' s wd p cols → Q (.ref s) H'
theorem sc_step_of : FnScope ["word", "spot", "before", "after", "place", "columns"] ["word", "spot", "before", "after"] (defScope s_step_of) := ⟨rfl, rfl, rfl, by decide +kernel, rfl, by decide +kernel, by decide +kernel⟩
theorem ok_step_of (T : Tx K mg) : C8.Cal P w K mg base 3 "step_of" (sp_step_of K) [] := by
  refine cal_of T.f_step_of T.g_step_of sc_step_of (fun _ _ _ _ _ _ us hl => match us, hl with | [_, _, _, _], _ => rfl) (fun vs H Q E h => ?_) (fun cdv A outer s H vs Q E hr h => ?_)
  · obtain ⟨wd, st, p, ca, b, f, cols, rfl, _⟩ := h
    rfl
  · obtain ⟨wd, st, p, ca, b, f, cols, rfl, hst, hca, hw, k⟩ := h
    have nd := sc_step_of.nd
    refine ⟨_, (pss_cons (ps_asg (pv 1) (pg_tup (by rfl) (pgs_cons (pg_name (i := 4) nd rfl (Or.inl rfl)) (pgs_cons (pg_name (i := 5) nd rfl (Or.inl rfl)) pgs_nil))))
      (pss_cons (ps_if (pt_cmpR op_eq (pv 0) pe_str (nomark _)) (pss_one (ps_ret (C8.pe_mk (ok_Put_init T) hr (by decide) rfl (pa_cons (pv 4) (pa_cons (pv 5) (pa_cons (pv 2) (pa_cons (pv 3) pa_nil))))))) pss_nil)
      (pss_cons (ps_if (pt_cmpR op_eq (pv 0) pe_str (nomark _)) (pss_one (ps_ret (C8.pe_mk (ok_Take_init T) hr (by decide) rfl (pa_cons (pv 4) (pa_cons (pv 5) (pa_cons (pv 2) (pa_cons (pv 3) pa_nil))))))) pss_nil)
      (pss_cons (ps_if (pt_cmpR op_eq (pv 0) pe_str (nomark _)) (pss_one (ps_ret (C8.pe_mk (ok_Edit_init T) hr (by decide) rfl (pa_cons (pv 4) (pa_cons (pv 5) (pa_cons (pv 2) (pa_cons (pv 3) pa_nil))))))) pss_nil)
      (pss_one (ps_ret (pe_never))))))), ?_⟩
    walk_at "nf"
    have d1 : ¬ V.str ("take" : Str) = V.str "put" := by decide +kernel
    have d2 : ¬ V.str ("edit" : Str) = V.str "put" := by decide +kernel
    have d3 : ¬ V.str ("edit" : Str) = V.str "take" := by decide +kernel
    refine ⟨_, rfl, st, _, rfl, hst, rfl, _, _, rfl, _, _, rfl, rfl, _, rfl, rfl, _, rfl, ?_⟩
    rcases hw with rfl | rfl | rfl
    · rw [decide_eq_true rfl]
      exact iteT ⟨_, rfl, _, rfl, _, rfl, _, rfl, go_Step hca k⟩
    · rw [decide_eq_false d1]
      refine iteF ⟨_, rfl, rfl, _, rfl, ?_⟩
      rw [decide_eq_true rfl]
      exact iteT ⟨_, rfl, _, rfl, _, rfl, _, rfl, go_Step hca k⟩
    · rw [decide_eq_false d2]
      refine iteF ⟨_, rfl, rfl, _, rfl, ?_⟩
      rw [decide_eq_false d3]
      refine iteF ⟨_, rfl, rfl, _, rfl, ?_⟩
      rw [decide_eq_true rfl]
      exact iteT ⟨_, rfl, _, rfl, _, rfl, _, rfl, go_Step hca k⟩
/-! ### gain_of -/
def sp_gain_of (K : PySem.W.Frag) : Sp := fun vs H Q _ => ∃ a wd p cols, vs = [.ref a] ∧ StepAt K H a wd p cols ∧ Q (.int (gainW wd)) H
theorem sc_gain_of : FnScope ["step"] ["step"] (defScope s_gain_of) := ⟨rfl, rfl, rfl, by decide +kernel, rfl, by decide +kernel, by decide +kernel⟩
theorem ok_gain_of (T : Tx K mg) : C8.Cal P w K mg base 1 "gain_of" (sp_gain_of K) [] := by
  refine cal_of T.f_gain_of T.g_gain_of sc_gain_of (fun _ _ _ _ _ _ us hl => match us, hl with | [_], _ => rfl) (fun vs H Q E h => ?_) (fun cdv A outer s H vs Q E hr h => ?_)
  · obtain ⟨a, wd, p, cols, rfl, _⟩ := h
    rfl
  · obtain ⟨a, wd, p, cols, rfl, ha, k⟩ := h
    have nd := sc_gain_of.nd
    refine ⟨_, (pss_cons (ps_if (pt_cmpR op_eq (pe_fld (pv 0) rfl) pe_str (nomark _)) (pss_one (ps_ret pe_int)) pss_nil)
      (pss_one (ps_ret (pe_ifExp (pt_cmpR op_eq (pe_fld (pv 0) rfl) pe_str (nomark _)) (pe_un un_neg pe_int) pe_int)))), ?_⟩
    walk_at "nf"
    obtain ⟨C, dx, ct, hh, h1, h2, h3, h4, h5, h6⟩ := ha.ex
    unfold gainW at k
    refine ⟨_, rfl, a, C, dx, _, _, rfl, h1, h2, h3, by rfl, rfl, _, rfl, ?_⟩
    by_cases e1 : wd = "put"
    · rw [decide_eq_true (show V.str wd = V.str "put" by rw [e1])]
      rw [if_pos e1] at k
      exact iteT k
    · rw [decide_eq_false (show ¬ V.str wd = V.str "put" from fun q => e1 (V.str.inj q))]
      rw [if_neg e1] at k
      refine iteF ⟨_, rfl, a, C, dx, _, _, rfl, h1, h2, h3, by rfl, rfl, _, rfl, ?_⟩
      by_cases e2 : wd = "take"
      · rw [decide_eq_true (show V.str wd = V.str "take" by rw [e2])]
        rw [if_pos e2] at k
        exact iteT ⟨_, rfl, k⟩
      · rw [decide_eq_false (show ¬ V.str wd = V.str "take" from fun q => e2 (V.str.inj q))]
        rw [if_neg e2] at k
        exact iteF k
/-! ### changed_columns -/
def sp_changed_columns (K : PySem.W.Frag) : Sp := fun vs H Q _ => ∃ ca b a cols r1 r2, vs = [.ref ca, .ref b, .ref a] ∧ SqT K H ca (cols.map V.str) ∧ H b = some (cO r1) ∧ H a = some (cO r2) ∧ cols.length ≤ 3 ∧
  ∀ H' p, Same H H' → H p = none → H' p = some (.tup ((chg cols r1 r2).map V.str)) → Q (.ref p) H'
theorem sc_changed_columns : FnScope ["columns", "before", "after", "column"] ["columns", "before", "after"] (defScope s_changed_columns) := ⟨rfl, rfl, rfl, by decide +kernel, rfl, by decide +kernel, by decide +kernel⟩
theorem ok_changed_columns (T : Tx K mg) : C8.Cal P w K mg base 1 "changed_columns" (sp_changed_columns K) [] := by
  refine cal_of T.f_changed_columns T.g_changed_columns sc_changed_columns (fun _ _ _ _ _ _ us hl => match us, hl with | [_, _, _], _ => rfl) (fun vs H Q E h => ?_) (fun cdv A outer s H vs Q E hr h => ?_)
  · obtain ⟨ca, b, a, cols, r1, r2, rfl, _⟩ := h
    rfl
  · obtain ⟨ca, b, a, cols, r1, r2, rfl, hca, hb, ha, hl, k⟩ := h
    have nd := sc_changed_columns.nd
    have hu := hu_of hr
    refine ⟨_, (pss_one (ps_ret (pe_callTy call_tuple_of (by rfl) T.z_tuple (by decide +kernel) (pa_cons (pe_lc (own := [("column", 3)]) rfl nd (pi_tup (pv 0)) (blkOk_by (by kernel_rfl)) (fun _ _ _ _ _ => (pg_name (i := 3) nd rfl (Or.inl rfl))) (fun _ _ _ _ _ => (pts_one (pt_cmpR op_ne (pe_dget1 hu (pv 1) (pv 3) ⟨rfl, rfl, rfl, rfl⟩) (pe_dget1 hu (pv 2) (pv 3) ⟨rfl, rfl, rfl, rfl⟩) (nomark _)))) (fun _ _ _ _ _ => (pv 3))) pa_nil)))), ?_⟩
    walk_at "nf"
    refine ⟨_, rfl, ca, rfl, ⟨_, hca⟩, fun D hD => lc_go (walk_tup (xs := cols.map V.str)) hD (fun i acc _ => acc = (chg (cols.take i) r1 r2).map V.str) (fun H2 e2 => Same.tup e2 hca) rfl ?_ ?_⟩
    · rintro i x H2 H3 acc hi e hDD hl2 hacc ⟨rfl, hx⟩
      obtain ⟨c, hc, rfl⟩ := get_map_str hx
      rw [List.length_map] at hi
      walk_at "nf"
      have hb2 := e _ _ hb
      have ha2 := e _ _ ha
      have op : ∀ (o : Option Str), (o.map V.str).getD V.non = optV o := fun o => by cases o <;> rfl
      refine ⟨rfl, _, rfl, b, rfl, .inl ⟨_, .inl hb2⟩, _, rfl, valV (r1.map fun c => ((Sum.inr c.1 : Key), V.str c.2)) (Sum.inr c), .inl ⟨_, _, .inl hb2, rfl, rfl⟩, _, rfl, a, rfl, .inl ⟨_, .inl ha2⟩, _, rfl, valV (r2.map fun c => ((Sum.inr c.1 : Key), V.str c.2)) (Sum.inr c), .inl ⟨_, _, .inl ha2, rfl, rfl⟩, ?_⟩
      rw [cell_val, cell_val, op, op]
      have hsc : scal (optV (cell r1 c)) (optV (cell r2 c)) = true := by
        cases cell r1 c <;> cases cell r2 c <;> rfl
      refine ⟨hsc, _, rfl, ?_⟩
      have hinj : optV (cell r1 c) = optV (cell r2 c) ↔ cell r1 c = cell r2 c := by
        constructor
        · intro e
          cases h1 : cell r1 c with
          | none => rw [h1] at e; cases h2 : cell r2 c with
            | none => rfl
            | some y => rw [h2] at e; cases e
          | some x => rw [h1] at e; cases h2 : cell r2 c with
            | none => rw [h2] at e; cases e
            | some y => rw [h2] at e; cases e; rfl
        · exact fun e => by rw [e]
      have htk : chg (cols.take (i + 1)) r1 r2 = chg (cols.take i) r1 r2 ++ (if decide (cell r1 c ≠ cell r2 c) = true then [c] else []) := by
        unfold chg
        rw [take_snoc hc, List.filter_append]
        congr 1
        by_cases h : cell r1 c = cell r2 c
        · simp [h]
        · simp [h]
      by_cases h : cell r1 c = cell r2 c
      · rw [decide_eq_true (hinj.mpr h)]
        refine iteF ⟨acc, hDD, e, by omega, ?_⟩
        show acc = (chg (cols.take (i + 1)) r1 r2).map V.str
        rw [hacc, htk, if_neg (by simp [h]), List.append_nil]
      · rw [decide_eq_false (fun q => h (hinj.mp q))]
        refine iteT ⟨_, rfl, lc_put hD hDD e hl2 (by omega) id ?_⟩
        show acc ++ [V.str c] = (chg (cols.take (i + 1)) r1 r2).map V.str
        rw [hacc, htk, if_pos (by simp [h]), List.map_append]
        rfl
    · intro H2 acc e hDD hacc
      rw [List.length_map, List.take_of_length_le (Nat.le_refl _)] at hacc
      refine ⟨D, _, rfl, .inl ⟨SqL.of (by rw [hDD, hacc]), fun p hp => k _ p (e.new hp) (e.free hp) upd_same⟩⟩
/-! ### steps_at -/
theorem shp_nm {n : List Nat} (h : OkN n) {k : Nat} : Shp k (.str (SX.S n)) := by
  refine ⟨?_, by simp [PyData.depth]⟩
  simp only [PyData.canLay0, PyData.strOk]
  rw [← Array.all_toList]
  refine List.all_eq_true.mpr fun c hc => decide_eq_true ?_
  have hc' : c ∈ n := hc
  have : ∀ c ∈ signs, c < 0x110000 := by decide
  exact this c (h.sg c hc')
theorem dp_strs {K : PySem.W.Frag} {H : Hp} : ∀ l : List Str, DpAll K H (l.map V.str) (l.map .str)
  | [] => .nil
  | x :: r => .cons (.str x) (dp_strs r)
def stepsAt (cols : List Str) (p : Str) (r1 r2 : Cells) : Option (Str × Str × List Str) := if chg cols r1 r2 = [] then none else some (wordOf r1 r2, p, chg cols r1 r2)
def sp_steps_at (K : PySem.W.Frag) : Sp := fun vs H Q _ => ∃ p ca rw b a cols r1 r2, vs = [.str p, .ref ca, .ref rw, .bl false] ∧ SqT K H ca (cols.map V.str) ∧ SqT K H rw [.ref b, .ref a] ∧ H b = some (cO r1) ∧ H a = some (cO r2) ∧ OkCols cols ∧
  ((chg cols r1 r2 = [] → ∀ H' l, Same H H' → H l = none → H' l = some (.lst []) → Q (.ref l) H') ∧
   (chg cols r1 r2 ≠ [] → ∀ H' l s, Same H H' → H l = none → H' l = some (.lst [.ref s]) → StepAt K H' s (wordOf r1 r2) p (chg cols r1 r2) → Q (.ref l) H'))
theorem sc_steps_at : FnScope ["place", "columns", "rows", "is_divided", "changed", "word", "before", "after", "one"] ["place", "columns", "rows", "is_divided"] (defScope s_steps_at) := ⟨rfl, rfl, rfl, by decide +kernel, rfl, by decide +kernel, by decide +kernel⟩
theorem okK_steps_at (T : Tx K mg) : CalK P w K mg base 4 "steps_at" (sp_steps_at K) 3 ["is_divided"] (fun vs zs => vs ++ zs) := by
  refine calk_of (g := fun us ws => us ++ ws) T.f_steps_at T.g_steps_at sc_steps_at (fun _ _ _ _ _ _ us ws h1 h2 => match us, h1, ws, h2 with | [_, _, _], _, [_], _ => rfl) (fun r1 r2 => r1.append r2) (fun vs H Q E h => ?_) (fun cdv A outer s H vs Q E hr h => ?_)
  · obtain ⟨p, ca, rw, b, a, cols, r1, r2, rfl, _⟩ := h
    rfl
  · obtain ⟨p, ca, rw, b, a, cols, r1, r2, rfl, hca, hrw, hb, ha, hc, k1, k2⟩ := h
    have nd := sc_steps_at.nd
    have hu := hu_of hr
    refine ⟨_, (pss_cons (ps_asg (pv 2) (pg_tup (by rfl) (pgs_cons (pg_name (i := 6) nd rfl (Or.inr rfl)) (pgs_cons (pg_name (i := 7) nd rfl (Or.inr rfl)) pgs_nil))))
      (pss_cons (ps_set (i := 4) nd rfl (Or.inl rfl) (C8.pe_c (ok_changed_columns T) hr (by decide) rfl (pa_cons (pv 1) (pa_cons (pv 6) (pa_cons (pv 7) pa_nil)))))
      (pss_cons (ps_if (pt_cmpR (op_eqD hr.units) (pv 4) (pe_tup pa_nil) (nomark _)) (pss_one (ps_ret (pe_lst pa_nil))) pss_nil)
      (pss_cons (ps_if (pt_val (pv 3)) (pss_one (ps_ret (pe_never))) pss_nil)
      (pss_cons (ps_set (i := 5) nd rfl (Or.inl rfl) pe_str)
      (C8.pss_cut (ps_if (PW.pt (pw_or (pt_cmpR (op_eq_emp hu) (pv 6) pe_dnewK (nomark _)) (pw_or1 (pt_cmpR (op_eq_emp hu) (pv 7) pe_dnewK (nomark _))))) (pss_one (ps_set (i := 5) nd rfl (Or.inl rfl) (pe_ifExp (pt_cmpR (op_eq_emp hu) (pv 6) pe_dnewK (nomark _)) pe_str pe_str))) pss_nil)
      (pss_one (ps_ret (pe_lst (pa_cons (C8.pe_c (ok_step_of T) hr (by decide) rfl (pa_cons (pv 5) (pa_cons (pe_tup (pa_cons (pv 0) (pa_cons (pv 4) pa_nil))) (pa_cons (pv 6) (pa_cons (pv 7) pa_nil))))) pa_nil)))))))))), ?_⟩
    walk_at "nf"
    refine ⟨_, rfl, rw, _, rfl, hrw, rfl, _, _, rfl, _, _, rfl, rfl, _, rfl, _, rfl, _, rfl, ca, b, a, cols, r1, r2, rfl, hca, hb, ha, hc.le, fun H1 q e1 hq1 hq => ?_⟩
    refine ⟨_, rfl, Nat.zero_le _, fun t ht => ?_⟩
    have e2 := e1.new (o := .tup []) ht
    have hq2 : upd H1 t (.tup []) q = some (.tup ((chg cols r1 r2).map V.str)) := (upd_ne (ne_of_none hq ht)).trans hq
    refine ⟨.tuple ((chg cols r1 r2).map .str), .tuple [], .tup (SqT.of hq2) (dp_strs _), .tup (xs := []) (SqT.of upd_same) .nil, ?_, shp_nilT, _, rfl, ?_⟩
    · refine (Shp.tuple (n := 0) fun d hd => ?_).ok (by decide)
      obtain ⟨c, hc1, rfl⟩ := List.mem_map.mp hd
      obtain ⟨n, rfl, hn⟩ := hc.nm c (List.mem_filter.mp hc1).1
      exact shp_nm hn
    by_cases h0 : chg cols r1 r2 = []
    · rw [h0]
      refine iteT ⟨Nat.zero_le _, fun l hl => ?_⟩
      exact k1 h0 _ l (e2.new hl) (e2.free hl) upd_same
    · have ef : PyData.eqv (.tuple ((chg cols r1 r2).map .str)) (.tuple []) = false := by
        cases hx : chg cols r1 r2 with
        | nil => exact absurd hx h0
        | cons x r => simp [PyData.eqv, PyData.eqvAll]
      rw [ef]
      refine iteF ⟨_, rfl, _, rfl, iteF ?_⟩
      have hb2 := e2 _ _ hb
      have ha2 := e2 _ _ ha
      have emp : ∀ r : Cells, (r.map fun c => ((Sum.inr c.1 : Key), V.str c.2)).isEmpty = decide (r = []) := fun r => by cases r <;> simp
      refine ⟨fun σ H3 => σ = [some (.str p), some (.ref ca), some (.ref rw), some (.bl false), some (.ref q), some (.str (wordOf r1 r2)), some (.ref b), some (.ref a), none] ∧ Same (upd H1 t (.tup [])) H3, ?_, ?_⟩
      · refine ⟨_, rfl, fun x1 hx1 => ⟨b, x1, _, rfl, rfl, (upd_ne (ne_of_none hb2 hx1)).trans hb2, upd_same, _, rfl, ?_⟩⟩
        have e3 := (Same.refl (upd H1 t (.tup []))).new (o := .dK []) hx1
        have hb3 := e3 _ _ hb2
        have ha3 := e3 _ _ ha2
        rw [if_neg Bool.false_ne_true, emp]
        by_cases hr1 : r1 = []
        · rw [decide_eq_true hr1]
          refine iteT (iteT ⟨_, rfl, fun x2 hx2 => ⟨b, x2, _, rfl, rfl, (upd_ne (ne_of_none hb3 hx2)).trans hb3, upd_same, _, rfl, ?_⟩⟩)
          rw [if_neg Bool.false_ne_true, emp, decide_eq_true hr1]
          refine iteT ⟨?_, e3.new hx2⟩
          unfold wordOf
          rw [if_pos hr1]
          rfl
        · rw [decide_eq_false hr1]
          refine iteF ⟨_, rfl, fun x2 hx2 => ⟨a, x2, _, rfl, rfl, (upd_ne (ne_of_none ha3 hx2)).trans ha3, upd_same, _, rfl, ?_⟩⟩
          have e4 := e3.new (o := .dK []) hx2
          have hb4 := e4 _ _ hb2
          rw [if_neg Bool.false_ne_true, emp]
          by_cases hr2 : r2 = []
          · rw [decide_eq_true hr2]
            refine iteT ⟨_, rfl, fun x3 hx3 => ⟨b, x3, _, rfl, rfl, (upd_ne (ne_of_none hb4 hx3)).trans hb4, upd_same, _, rfl, ?_⟩⟩
            rw [if_neg Bool.false_ne_true, emp, decide_eq_false hr1]
            refine iteF ⟨?_, e4.new hx3⟩
            unfold wordOf
            rw [if_neg hr1, if_pos hr2]
            rfl
          · rw [decide_eq_false hr2]
            refine iteF ⟨?_, e4⟩
            unfold wordOf
            rw [if_neg hr1, if_neg hr2]
            rfl
      · rintro σ H3 ⟨rfl, e3⟩
        refine ⟨_, rfl, _, rfl, _, rfl, (by show 2 ≤ sizeLine; decide), fun u hu2 => ⟨_, rfl, _, rfl, ?_⟩⟩
        have e4 := e3.new (o := .tup [.str p, .ref q]) hu2
        have hq4 := e4 _ _ hq2
        refine ⟨wordOf r1 r2, u, p, q, b, a, chg cols r1 r2, rfl, SqT.of upd_same, SqT.of hq4, ?_, fun H5 s5 e5 hs5 hst => ?_⟩
        · unfold wordOf
          by_cases hr1 : r1 = []
          · rw [if_pos hr1]
            exact .inl rfl
          · rw [if_neg hr1]
            by_cases hr2 : r2 = []
            · rw [if_pos hr2]
              exact .inr (.inl rfl)
            · rw [if_neg hr2]
              exact .inr (.inr rfl)
        · refine ⟨(by show 1 ≤ sizeLine; decide), fun l hl => ?_⟩
          have e6 := ((e2.trans e4).trans e5)
          exact k2 h0 _ l s5 (e6.new hl) (e6.free hl) upd_same (Same.step ((Same.refl _).new hl) hst)
end
end NS
set_option Elab.async false
set_option linter.all false
set_option maxRecDepth 100000
set_option maxHeartbeats 4000000
/-! Exchanges: their fields, steps. -/
namespace NS
open PySem PySem.Spec PyProof.Rows L2 He
local macro_rules | `(tactic| walk_at "nf") => `(tactic| dsimp only [L2.tNext, L2.tSeq, L2.tDrop, L2.tRet, L2.tRetN, L2.tIfS, L2.tAsg, L2.gName, L2.gCons, L2.gNil, L2.gTup, L2.tOp, L2.tUn, L2.tTest, L2.tChain, L2.tB, L2.tAnd, L2.tOr, L2.tNot, L2.tAndV, L2.tOrV, L2.tNotV, L2.tIf, L2.tCB, L2.tNil, L2.tCons, L2.tTup, L2.tLst, L2.tFld, L2.sFld, L2.tCall, L2.tMeth, L2.tMake, L2.tBM, L2.tBM0, L2.tM1, L2.tM0, L2.tSl, L2.tPart, L2.tNoPart, L2.tPar, L2.tVar, L2.tC, L2.cxOf, L2.tYes, C8.tCut])
def tNo : TE := fun _ _ _ => False
theorem pe_no {X : Cx} {e : Expr} : PE X e tNo := ⟨fun _ _ _ _ _ _ h => h.elim⟩
/-! ### the fields -/
def exFields : List Str := ["columns", "held", "answers", "spots", "divided", "steps", "numbers", "sentences"]
def XF (K : PySem.W.Frag) (H : Hp) (x : Addr) (f : Str) (v : V) : Prop := ∃ dx fs, H x = some (.ins (ga K "Exchange") dx fs) ∧ fs.lookup f = some v ∧ ∀ p ∈ fs, p.1 ∈ exFields
theorem look_none {m : Str} : ∀ {fs : List (Str × V)}, (∀ p ∈ fs, p.1 ≠ m) → fs.lookup m = none
  | [], _ => rfl
  | (k, v) :: r, h => by
    have h1 : (m == k) = false := by
      have := h (k, v) (by simp)
      simpa using fun e => this e.symm
    rw [List.lookup_cons, h1]
    exact look_none fun p hp => h p (List.mem_cons_of_mem _ hp)
theorem XF.meth {K : PySem.W.Frag} {H : Hp} {x : Addr} {f m : Str} {v : V} {F : Prop} (h : XF K H x f v) (hm : m ∉ exFields) (k : F) : ∃ a dx fs, V.ref x = .ref a ∧ H a = some (.ins (ga K "Exchange") dx fs) ∧ fs.lookup m = none ∧ F := by
  obtain ⟨dx, fs, h1, _, h3⟩ := h
  exact ⟨x, dx, fs, rfl, h1, look_none fun p hp e => hm (e ▸ h3 p hp), k⟩
theorem Same.xf {K : PySem.W.Frag} {H H' : Hp} {x : Addr} {f : Str} {v : V} (e : Same H H') (h : XF K H x f v) : XF K H' x f v := let ⟨dx, fs, h1, h2, h3⟩ := h; ⟨dx, fs, e _ _ h1, h2, h3⟩
theorem XF.fld {K : PySem.W.Frag} {H : Hp} {x : Addr} {f : Str} {v : V} {F : V → Prop} (h : XF K H x f v) (cl : Cls K (ga K "Exchange")) (n : NoAttr K (ga K "Exchange") f) (k : F v) :
    ∃ a C dx fs u, V.ref x = .ref a ∧ H a = some (.ins C dx fs) ∧ Cls K C ∧ NoAttr K C f ∧ fs.lookup f = some u ∧ F u := by
  obtain ⟨dx, fs, h1, h2, _⟩ := h
  exact ⟨x, _, dx, fs, v, rfl, h1, cl, n, h2, k⟩
theorem XF.ins {K : PySem.W.Frag} {H : Hp} {x : Addr} {f : Str} {v : V} (h : XF K H x f v) : ∃ dx fs, H x = some (.ins (ga K "Exchange") dx fs) := let ⟨dx, fs, h1, _⟩ := h; ⟨dx, fs, h1⟩
def FHeld (K : PySem.W.Frag) (H : Hp) (x : Addr) (cols : List Str) (one two : Rws) : Prop := ∃ h t1 t2, XF K H x "held" (.ref h) ∧ SqT K H h [.ref t1, .ref t2] ∧ TableAt K H t1 cols one ∧ TableAt K H t2 cols two
def FCols (K : PySem.W.Frag) (H : Hp) (x : Addr) (cols : List Str) : Prop := ∃ c, XF K H x "columns" (.ref c) ∧ SqT K H c (cols.map V.str)
def FSpots (K : PySem.W.Frag) (H : Hp) (x : Addr) (sp : List Str) : Prop := ∃ c, XF K H x "spots" (.ref c) ∧ SqT K H c (sp.map V.str)
def FDiv (K : PySem.W.Frag) (H : Hp) (x : Addr) : Prop := ∃ c, XF K H x "divided" (.ref c) ∧ SqT K H c []
theorem Same.fheld {K : PySem.W.Frag} {H H' : Hp} {x : Addr} {cols : List Str} {one two : Rws} (e : Same H H') (h : FHeld K H x cols one two) : FHeld K H' x cols one two := let ⟨h, t1, t2, a, b, c, d⟩ := h; ⟨h, t1, t2, Same.xf e a, Same.tup e b, Same.table e c, Same.table e d⟩
theorem Same.fcols {K : PySem.W.Frag} {H H' : Hp} {x : Addr} {cols : List Str} (e : Same H H') (h : FCols K H x cols) : FCols K H' x cols := let ⟨c, a, b⟩ := h; ⟨c, Same.xf e a, Same.tup e b⟩
theorem Same.fspots {K : PySem.W.Frag} {H H' : Hp} {x : Addr} {cols : List Str} (e : Same H H') (h : FSpots K H x cols) : FSpots K H' x cols := let ⟨c, a, b⟩ := h; ⟨c, Same.xf e a, Same.tup e b⟩
theorem Same.fdiv {K : PySem.W.Frag} {H H' : Hp} {x : Addr} (e : Same H H') (h : FDiv K H x) : FDiv K H' x := let ⟨c, a, b⟩ := h; ⟨c, Same.xf e a, Same.tup e b⟩
/-! ### the mirror -/
abbrev Stp := Str × Str × List Str
def spots (one two : Rws) : List Str := usrt (one.map Prod.fst ++ two.map Prod.fst)
def stepOf (cols : List Str) (one two : Rws) (p : Str) : Option Stp := stepsAt cols p (rowOf one p) (rowOf two p)
def stepsL (cols : List Str) (one two : Rws) : List Stp := (spots one two).filterMap (stepOf cols one two)
structure StepsAt (K : PySem.W.Frag) (H : Hp) (as : List Addr) (sts : List Stp) : Prop where
  len : as.length = sts.length
  at_ : ∀ (i : Nat) a s, as[i]? = some a → sts[i]? = some s → StepAt K H a s.1 s.2.1 s.2.2
theorem Same.steps {K : PySem.W.Frag} {H H' : Hp} {as : List Addr} {sts : List Stp} (e : Same H H') (h : StepsAt K H as sts) : StepsAt K H' as sts := ⟨h.len, fun i a s h1 h2 => Same.step e (h.at_ i a s h1 h2)⟩
theorem StepsAt.snoc {K : PySem.W.Frag} {H : Hp} {as : List Addr} {sts : List Stp} {a : Addr} {s : Stp} (h : StepsAt K H as sts) (ha : StepAt K H a s.1 s.2.1 s.2.2) : StepsAt K H (as ++ [a]) (sts ++ [s]) := by
  refine ⟨by rw [List.length_append, List.length_append, h.len]; rfl, fun i b t h1 h2 => ?_⟩
  by_cases hi : i < as.length
  · rw [List.getElem?_append_left hi] at h1
    rw [List.getElem?_append_left (by rw [← h.len]; exact hi)] at h2
    exact h.at_ i b t h1 h2
  · rw [List.getElem?_append_right (by omega)] at h1
    rw [List.getElem?_append_right (by rw [← h.len]; omega)] at h2
    have hz : i - as.length = 0 := by
      have := (List.getElem?_eq_some_iff.mp h1).1
      simp only [List.length_singleton] at this
      omega
    rw [← h.len, hz] at h2
    rw [hz] at h1
    have h1 := Option.some.inj h1
    have h2 := Option.some.inj h2
    subst h1 h2
    exact ha
def FSteps (K : PySem.W.Frag) (H : Hp) (x : Addr) (sts : List Stp) : Prop := ∃ c as, XF K H x "steps" (.ref c) ∧ SqT K H c (as.map V.ref) ∧ StepsAt K H as sts
theorem Same.fsteps {K : PySem.W.Frag} {H H' : Hp} {x : Addr} {sts : List Stp} (e : Same H H') (h : FSteps K H x sts) : FSteps K H' x sts := let ⟨c, as, a, b, d⟩ := h; ⟨c, as, Same.xf e a, Same.tup e b, Same.steps e d⟩
theorem chg_nil {cols : List Str} {r : Cells} : chg cols r r = [] := by
  unfold chg
  rw [List.filter_eq_nil_iff]
  intro c _
  simp
theorem len_spots {cols : List Str} {one two : Rws} (h1 : OkRows cols one) (h2 : OkRows cols two) : (spots one two).length ≤ 40 := by
  have := len_usrt (one.map Prod.fst ++ two.map Prod.fst)
  rw [List.length_append, List.length_map, List.length_map] at this
  have := h1.le
  have := h2.le
  unfold spots
  omega
section
variable {P : Program} {w : World} {K : PySem.W.Frag} {mg : Str → Option Value} {base : Heap}
def sp_first_copy (K : PySem.W.Frag) : Sp := fun vs H Q _ => ∃ x cols one two, vs = [.ref x] ∧ FHeld K H x cols one two ∧ OkCols cols ∧ OkRows cols one ∧ ∀ H' u, Same H H' → H u = none → TableAt K H' u cols one → Q (.ref u) H'
theorem sc_Exchange_first_copy : FnScope ["self"] ["self"] (defScope sExchange_first_copy) := ⟨rfl, rfl, rfl, by decide +kernel, rfl, by decide +kernel, by decide +kernel⟩
theorem ok_Exchange_first_copy (T : Tx K mg) : C8.Met P w K mg base 8 (ga K "Exchange") "first_copy" (sp_first_copy K) [] := by
  refine met_of T.cl_Exchange T.m_Exchange_first_copy T.f_Exchange_first_copy sc_Exchange_first_copy (fun _ _ _ _ _ _ us hl => match us, hl with | [_], _ => rfl) (fun vs H Q E h => ?_) (fun cdv A outer s H vs Q E hr h => ?_)
  · obtain ⟨x, cols, one, two, rfl, _⟩ := h
    rfl
  · obtain ⟨x, cols, one, two, rfl, ⟨hh, t1, t2, x1, x2, x3, x4⟩, hc, ho, k⟩ := h
    have nd := sc_Exchange_first_copy.nd
    refine ⟨_, (pss_one (ps_ret (C8.pe_mt0 (ok_Table_copy T) hr (by decide) (pe_ix ix_tup (pe_fld (pv 0) rfl) pe_int (fun _ _ => rfl))))), ?_⟩
    walk_at "nf"
    obtain ⟨dx, ct, rd, h1, _⟩ := x3.ex
    exact ⟨_, rfl, x1.fld T.cl_Exchange T.n_Exchange_held ⟨hh, _, 0, _, rfl, rfl, x2, rfl, t1, dx, _, rfl, h1, rfl, t1, cols, one, rfl, x3, hc, ho, k⟩⟩
def sp_rows_at (K : PySem.W.Frag) : Sp := fun vs H Q _ => ∃ x p cols one two, vs = [.ref x, .str p] ∧ FHeld K H x cols one two ∧ OkRows cols one ∧ OkRows cols two ∧
  ∀ H' t b a, Same H H' → H t = none → H' t = some (.tup [.ref b, .ref a]) → H' b = some (cO (rowOf one p)) → H' a = some (cO (rowOf two p)) → Q (.ref t) H'
theorem sc_Exchange_rows_at : FnScope ["self", "place"] ["self", "place"] (defScope sExchange_rows_at) := ⟨rfl, rfl, rfl, by decide +kernel, rfl, by decide +kernel, by decide +kernel⟩
theorem ok_Exchange_rows_at (T : Tx K mg) : C8.Met P w K mg base 8 (ga K "Exchange") "rows_at" (sp_rows_at K) [] := by
  refine met_of T.cl_Exchange T.m_Exchange_rows_at T.f_Exchange_rows_at sc_Exchange_rows_at (fun _ _ _ _ _ _ us hl => match us, hl with | [_, _], _ => rfl) (fun vs H Q E h => ?_) (fun cdv A outer s H vs Q E hr h => ?_)
  · obtain ⟨x, p, cols, one, two, rfl, _⟩ := h
    rfl
  · obtain ⟨x, p, cols, one, two, rfl, hf, h1, h2, k⟩ := h
    have nd := sc_Exchange_rows_at.nd
    refine ⟨_, (pss_one (ps_ret (pe_tup (pa_cons (C8.pe_c (ok_row_of T) hr (by decide) rfl (pa_cons (pe_ix ix_tup (pe_fld (pv 0) rfl) pe_int (fun _ _ => rfl)) (pa_cons (pv 1) pa_nil))) (pa_cons (C8.pe_c (ok_row_of T) hr (by decide) rfl (pa_cons (pe_ix ix_tup (pe_fld (pv 0) rfl) pe_int (fun _ _ => rfl)) (pa_cons (pv 1) pa_nil))) pa_nil))))), ?_⟩
    walk_at "nf"
    obtain ⟨hh, t1, t2, x1, x2, x3, x4⟩ := hf
    refine ⟨_, rfl, x1.fld T.cl_Exchange T.n_Exchange_held ⟨hh, _, 0, _, rfl, rfl, x2, rfl, _, rfl, t1, p, cols, one, rfl, x3, h1, fun H1 b e1 hbn hb => ?_⟩⟩
    refine ⟨_, rfl, (Same.xf e1 x1).fld T.cl_Exchange T.n_Exchange_held ⟨hh, _, 1, _, rfl, rfl, Same.tup e1 x2, rfl, _, rfl, t2, p, cols, two, rfl, Same.table e1 x4, h2, fun H2 a e2 han ha => ?_⟩⟩
    refine ⟨(by show 2 ≤ sizeLine; decide), fun t ht => ?_⟩
    have e3 := (e1.trans e2).new (o := .tup [.ref b, .ref a]) ht
    have hb2 := e2 _ _ hb
    exact k _ t b a e3 ((e1.trans e2).free ht) upd_same ((upd_ne (ne_of_none hb2 ht)).trans hb2) ((upd_ne (ne_of_none ha ht)).trans ha)
def sp_places_divided (K : PySem.W.Frag) : Sp := fun vs H Q _ => ∃ x d sp, vs = [.ref x, .ref d] ∧ SqL K H d [] ∧ FSpots K H x sp ∧ sp.length ≤ 40 ∧ ∀ H' t, Same H H' → H t = none → H' t = some (.tup []) → Q (.ref t) H'
theorem sc_Exchange_places_divided : FnScope ["self", "divided", "found", "place", "one", "two", "value"] ["self", "divided"] (defScope sExchange_places_divided) := ⟨rfl, rfl, rfl, by decide +kernel, rfl, by decide +kernel, by decide +kernel⟩
theorem ok_Exchange_places_divided (T : Tx K mg) : C8.Met P w K mg base 1 (ga K "Exchange") "places_divided" (sp_places_divided K) [] := by
  refine met_of T.cl_Exchange T.m_Exchange_places_divided T.f_Exchange_places_divided sc_Exchange_places_divided (fun _ _ _ _ _ _ us hl => match us, hl with | [_, _], _ => rfl) (fun vs H Q E h => ?_) (fun cdv A outer s H vs Q E hr h => ?_)
  · obtain ⟨x, d, sp, rfl, _⟩ := h
    rfl
  · obtain ⟨x, d, sp, rfl, hd, ⟨c, x1, x2⟩, hl, k⟩ := h
    have nd := sc_Exchange_places_divided.nd
    refine ⟨_, (pss_cons (ps_set (i := 2) nd rfl (Or.inr rfl) (pe_lc (own := [("value", 6)]) rfl nd (pi_list (pv 1)) (blkOk_by (by kernel_rfl)) (fun _ _ _ _ _ => (pg_name (i := 6) nd rfl (Or.inl rfl))) (fun _ _ _ _ _ => pts_nil) (fun _ _ _ _ _ => pe_no)))
      (pss_cons (ps_for PassesOwn.never rfl (pi_list (pv 2)) (pg_name (i := 3) nd rfl (Or.inl rfl)) pss_never)
      (pss_one (ps_ret (pe_callTy call_tuple_of (by rfl) T.z_tuple (by decide +kernel) (pa_cons (pe_lc (own := [("place", 3)]) rfl nd (pi_tup (pe_fld (pv 0) rfl)) (blkOk_by (by kernel_rfl)) (fun _ _ _ _ _ => (pg_name (i := 3) nd rfl (Or.inl rfl))) (fun _ _ _ _ _ => (pts_one (pt_cmpR (show OpR _ (compareOp .In) (rIn K false) from op_in_seq) (pv 3) (pv 2) (by rfl)))) (fun _ _ _ _ _ => (pv 3))) pa_nil)))))), ?_⟩
    walk_at "nf"
    refine ⟨_, rfl, d, rfl, ⟨_, hd⟩, fun D hD => lc_go (walk_list (xs := [])) hD (fun i acc _ => acc = []) (fun H2 e2 => Same.sql e2 hd) rfl ?_ ?_⟩
    · intro i x1 H1 H2 acc hi
      exact absurd hi (by simp)
    · intro H1 acc e hDD hacc
      subst hacc
      refine ⟨_, rfl, D, rfl, ⟨[], SqL.of hDD⟩, ?_⟩
      refine for_it (walk_list (xs := [])) (fun i σ H' => σ = [some (.ref x), some (.ref d), some (.ref D), none, none, none, none] ∧ H' = H1) ⟨rfl, rfl⟩ (fun i σ H' _ ⟨_, h⟩ => by rw [h]; exact SqL.of hDD) (fun i x1 σ H1 H2 hi => absurd hi (by simp)) ?_
      rintro σ H2 ⟨rfl, rfl⟩
      walk_at "nf"
      refine ⟨_, rfl, (Same.xf e x1).fld T.cl_Exchange T.n_Exchange_spots ⟨c, rfl, ⟨_, Same.tup e x2⟩, fun D2 hD2 => lc_go (walk_tup (xs := sp.map V.str)) hD2 (fun i acc _ => acc = []) (fun H3 e3 => Same.tup (e.trans e3) x2) rfl ?_ ?_⟩⟩
      · rintro i y H3 H4 acc hi e3 hDD2 hl2 hacc ⟨rfl, hy⟩
        obtain ⟨p, hp, rfl⟩ := get_map_str hy
        walk_at "nf"
        have hDD4 := e3 _ _ hDD
        refine ⟨rfl, _, rfl, _, rfl, D, [], rfl, .inl (SqL.of hDD4), rfl, rfl, _, rfl, iteF ⟨acc, hDD2, e3, by omega, hacc⟩⟩
      · intro H3 acc e3 hDD2 hacc
        subst hacc
        exact ⟨D2, [], rfl, .inl ⟨SqL.of hDD2, fun p hp => k _ p ((e.trans e3).new hp) ((e.trans e3).free hp) upd_same⟩⟩
end
end NS
set_option Elab.async false
set_option linter.all false
set_option maxRecDepth 100000
set_option maxHeartbeats 4000000
/-! The law's site. -/
namespace NS
open PySem PySem.Spec PyProof.Rows L2 He
local macro_rules | `(tactic| walk_at "nf") => `(tactic| dsimp only [L2.tNext, L2.tSeq, L2.tDrop, L2.tRet, L2.tRetN, L2.tIfS, L2.tAsg, L2.gName, L2.gCons, L2.gNil, L2.gTup, L2.tOp, L2.tUn, L2.tTest, L2.tChain, L2.tB, L2.tAnd, L2.tOr, L2.tNot, L2.tAndV, L2.tOrV, L2.tNotV, L2.tIf, L2.tCB, L2.tNil, L2.tCons, L2.tTup, L2.tLst, L2.tFld, L2.sFld, L2.tCall, L2.tMeth, L2.tMake, L2.tBM, L2.tBM0, L2.tM1, L2.tM0, L2.tSl, L2.tPart, L2.tNoPart, L2.tPar, L2.tVar, L2.tC, L2.cxOf, L2.tYes, C8.tCut])
/-- the site at s -/
def SiteAt (H : Hp) (s : Addr) (cols : List Str) (one two : Rws) : Prop := ∃ lc d1 d2 ld, H s = some (.dK [(.inr "columns", .ref lc), (.inr "first", .ref d1), (.inr "second", .ref d2), (.inr "divided", .ref ld)]) ∧ H lc = some (.lst (cols.map V.str)) ∧ RowsAt H d1 one ∧ RowsAt H d2 two ∧ H ld = some (.lst [])
theorem Same.site {H H' : Hp} {s : Addr} {cols : List Str} {one two : Rws} (e : Same H H') (h : SiteAt H s cols one two) : SiteAt H' s cols one two := let ⟨lc, d1, d2, ld, h1, h2, h3, h4, h5⟩ := h; ⟨lc, d1, d2, ld, e _ _ h1, e _ _ h2, Same.rows e h3, Same.rows e h4, e _ _ h5⟩
theorem RowsAt.but {H H' : Hp} {p d : Addr} {xs : List V} {rows : Rws} (b : But p H H') (hp : H p = some (.lst xs)) (h : RowsAt H d rows) : RowsAt H' d rows := by
  obtain ⟨as, h1, h2, h3⟩ := h.ex
  exact ⟨as, h1, b _ _ (fun z => by rw [z, hp] at h2; cases h2) h2, fun q hq => b _ _ (fun z => by have := h3 q hq; rw [z, hp] at this; cases this) (h3 q hq)⟩
theorem RowsAt.other {H : Hp} {d d' : Addr} {o : HO} {rows rows' : Rws} (h : RowsAt H d rows) (h' : RowsAt H d' rows') (hne : d' ≠ d) (hr : ∀ x ∈ rows, x.2 ≠ []) : RowsAt (upd H d' o) d rows := by
  obtain ⟨as, h1, h2, h3⟩ := h.ex
  obtain ⟨as', h1', h2', _⟩ := h'.ex
  refine ⟨as, h1, (upd_ne hne.symm).trans h2, fun q hq => (upd_ne fun z => ?_).trans (h3 q hq)⟩
  have h4 := h3 q hq
  rw [z, h2'] at h4
  have e2 := HO.dK.inj (Option.some.inj h4)
  cases hc : q.1.2 with
  | nil => exact hr q.1 (List.of_mem_zip hq).1 hc
  | cons c l =>
    rw [hc] at e2
    cases hz : rows'.zip as' with
    | nil => rw [hz] at e2; cases e2
    | cons y t =>
      rw [hz, List.map_cons, List.map_cons] at e2
      have := congrArg Prod.snd (List.cons.inj e2).1
      cases this
/-- the cells of a row so far -/
structure CellsTo (cols : List Str) (j : Nat) (r : Cells) : Prop where
  key : ∀ c ∈ r, c.1 ∈ cols.take j
  val : ∀ c ∈ r, NameS c.2
  nd : (r.map Prod.fst).Nodup
theorem CellsTo.more {cols : List Str} {j : Nat} {r : Cells} (h : CellsTo cols j r) : CellsTo cols (j + 1) r := ⟨fun c hc => by
  have := h.key c hc
  rw [List.take_succ]
  exact List.mem_append_left _ this, h.val, h.nd⟩
theorem CellsTo.not {cols : List Str} {j : Nat} {r : Cells} {col : Str} (h : CellsTo cols j r) (hn : cols.Nodup) (hc : cols[j]? = some col) : col ∉ r.map Prod.fst := fun z => by
  obtain ⟨c, hc1, e⟩ := List.mem_map.mp z
  have := h.key c hc1
  rw [e] at this
  exact not_ahead hn hc this
theorem CellsTo.put {cols : List Str} {j : Nat} {r : Cells} {col v : Str} (h : CellsTo cols j r) (hn : cols.Nodup) (hc : cols[j]? = some col) (hv : NameS v) : CellsTo cols (j + 1) (r ++ [(col, v)]) := by
  refine ⟨fun c hcc => ?_, fun c hcc => ?_, ?_⟩
  · rcases List.mem_append.mp hcc with hcc | hcc
    · exact h.more.key c hcc
    · rw [List.mem_singleton.mp hcc, List.take_succ, hc]
      simp
  · rcases List.mem_append.mp hcc with hcc | hcc
    · exact h.val c hcc
    · rw [List.mem_singleton.mp hcc]; exact hv
  · rw [List.map_append, List.nodup_append]
    refine ⟨h.nd, by simp, fun a ha b hb e => h.not hn hc ?_⟩
    have hb : b = col := by simpa using hb
    rw [← hb, ← e]
    exact ha
theorem cells_put {r : Cells} {col v : Str} (h : col ∉ r.map Prod.fst) : putK (r.map fun c => ((Sum.inr c.1 : Key), V.str c.2)) (Sum.inr col) (.str v) = (r ++ [(col, v)]).map fun c => ((Sum.inr c.1 : Key), V.str c.2) := by
  rw [putK_new _ (valV_not fun x hx e => h (by rw [← Sum.inr.inj e]; exact List.mem_map_of_mem hx)), List.map_append]
  rfl
theorem CellsTo.ok {cols : List Str} {r : Cells} (h : CellsTo cols cols.length r) (hc : OkCols cols) (hne : r ≠ []) : OkCells cols r :=
  ⟨hne, fun c hcc => by have := h.key c hcc; rw [List.take_length] at this; exact ⟨hc.nm _ this, this⟩, h.val, h.nd⟩
theorem CellsTo.len {cols : List Str} {j : Nat} {r : Cells} (h : CellsTo cols j r) : r.length ≤ cols.length := by
  have := len_sub h.nd fun x hx => by
    obtain ⟨c, hc, e⟩ := List.mem_map.mp hx
    rw [← e]
    exact List.mem_of_mem_take (h.key c hc)
  rwa [List.length_map] at this
/-- the rows of a site so far -/
structure RowsTo (cols ps : List Str) (i : Nat) (rows : Rws) : Prop where
  key : ∀ r ∈ rows, r.1 ∈ ps.take i
  row : ∀ r ∈ rows, OkCells cols r.2
  asc : (rows.map Prod.fst).Pairwise ltS
theorem RowsTo.more {cols ps : List Str} {i : Nat} {rows : Rws} (h : RowsTo cols ps i rows) : RowsTo cols ps (i + 1) rows := ⟨fun c hc => by
  have := h.key c hc
  rw [List.take_succ]
  exact List.mem_append_left _ this, h.row, h.asc⟩
theorem RowsTo.not {cols ps : List Str} {i : Nat} {rows : Rws} {q : Str} (h : RowsTo cols ps i rows) (ha : ps.Pairwise ltS) (hq : ps[i]? = some q) : q ∉ rows.map Prod.fst := fun z => by
  obtain ⟨c, hc1, e⟩ := List.mem_map.mp z
  have := h.key c hc1
  rw [e] at this
  exact not_ahead (List.Pairwise.imp (R := ltS) (S := (· ≠ ·)) (fun {a b} h e => by subst e; exact ltS_irr a h) ha) hq this
theorem RowsTo.put {cols ps : List Str} {i : Nat} {rows : Rws} {q : Str} {r : Cells} (h : RowsTo cols ps i rows) (ha : ps.Pairwise ltS) (hq : ps[i]? = some q) (hr : OkCells cols r) : RowsTo cols ps (i + 1) (rows ++ [(q, r)]) := by
  refine ⟨fun c hcc => ?_, fun c hcc => ?_, ?_⟩
  · rcases List.mem_append.mp hcc with hcc | hcc
    · exact h.more.key c hcc
    · rw [List.mem_singleton.mp hcc, List.take_succ, hq]
      simp
  · rcases List.mem_append.mp hcc with hcc | hcc
    · exact h.row c hcc
    · rw [List.mem_singleton.mp hcc]; exact hr
  · rw [List.map_append, List.pairwise_append]
    refine ⟨h.asc, by simp, fun a haa b hb => ?_⟩
    obtain rfl : b = q := by simpa using hb
    obtain ⟨c, hc1, rfl⟩ := List.mem_map.mp haa
    have hk := h.key c hc1
    obtain ⟨j, hj⟩ := List.mem_iff_getElem?.mp hk
    have hji : j < i := by
      have := (List.getElem?_eq_some_iff.mp hj).1
      rw [List.length_take] at this
      omega
    rw [List.getElem?_take_of_lt hji] at hj
    obtain ⟨q1, e1⟩ := List.getElem?_eq_some_iff.mp hj
    obtain ⟨q2, e2⟩ := List.getElem?_eq_some_iff.mp hq
    have := List.pairwise_iff_getElem.mp ha j i q1 q2 hji
    rwa [e1, e2] at this
theorem RowsTo.len {cols ps : List Str} {i : Nat} {rows : Rws} (h : RowsTo cols ps i rows) : rows.length ≤ ps.length := by
  have hnd : (rows.map Prod.fst).Nodup := List.Pairwise.imp (R := ltS) (S := (· ≠ ·)) (fun {a b} h e => by subst e; exact ltS_irr a h) h.asc
  have := len_sub hnd fun x hx => by
    obtain ⟨c, hc, e⟩ := List.mem_map.mp hx
    rw [← e]
    exact List.mem_of_mem_take (h.key c hc)
  rwa [List.length_map] at this
theorem RowsTo.ok {cols ps : List Str} {i : Nat} {rows : Rws} (h : RowsTo cols ps i rows) (hl : ps.length ≤ 6) (hp : ∀ q ∈ ps, PlaceS q) : OkRows cols rows :=
  ⟨by have := h.len; omega, fun r hr => hp _ (List.mem_of_mem_take (h.key r hr)), h.row, h.asc⟩
theorem spots_sub {cols ps : List Str} {i : Nat} {one two : Rws} (h1 : RowsTo cols ps i one) (h2 : RowsTo cols ps i two) : ∀ q ∈ spots one two, q ∈ ps := fun q hq => by
  unfold spots at hq
  rw [mem_usrt, List.mem_append] at hq
  rcases hq with hq | hq
  · obtain ⟨r, hr, e⟩ := List.mem_map.mp hq
    rw [← e]
    exact List.mem_of_mem_take (h1.key r hr)
  · obtain ⟨r, hr, e⟩ := List.mem_map.mp hq
    rw [← e]
    exact List.mem_of_mem_take (h2.key r hr)
section
variable {P : Program} {w : World} {K : PySem.W.Frag} {mg : Str → Option Value} {base : Heap}
def sp_law_site : Sp := fun vs H Q _ => ∃ p c N, ∃ wide : Int, vs = [.ref p, .int wide, .int 5] ∧ 1 ≤ wide ∧ wide ≤ 2 ∧ PenAt H p c N ∧ N ≤ 800 ∧ ∀ H' s cols one two, But p H H' → PenAt H' p c (N + 60) → H s = none → SiteAt H' s cols one two → OkCols cols → OkRows cols one → OkRows cols two → (spots one two).length ≤ 6 → (∀ q ∈ spots one two, PlaceS q) → Q (.ref s) H'
theorem sc_law_site : FnScope ["_law_pen_here", "_law_wide", "_law_top", "_law_names_here", "_law_columns", "_law_place", "_law_first", "_law_second", "_law_column", "_law_one", "_law_other", "_law_kind_here", "_law_at"] ["_law_pen_here", "_law_wide", "_law_top"] (defScope s_law_site) := ⟨rfl, rfl, rfl, by decide +kernel, rfl, by decide +kernel, by decide +kernel⟩
theorem ok_law_site (T : Tx K mg) : C8.Cal P w K mg base 4 "_law_site" sp_law_site [] := by
  refine cal_of T.f_law_site T.g_law_site sc_law_site (fun _ _ _ _ _ _ us hl => match us, hl with | [_, _, _], _ => rfl) (fun vs H Q E h => ?_) (fun cdv A outer s H vs Q E hr h => ?_)
  · obtain ⟨p, c, N, wide, rfl, _⟩ := h
    rfl
  · obtain ⟨p, c, N, wide, rfl, hw1, hw2, hp, hN, k⟩ := h
    have nd := sc_law_site.nd
    have hu := hu_of hr
    refine ⟨_, (pss_cons (ps_set (i := 3) nd rfl (Or.inl rfl) (C8.pe_c (ok_law_names T) hr (by decide) rfl (pa_cons (pv 0) pa_nil)))
      (pss_cons (ps_set (i := 4) nd rfl (Or.inl rfl) (pe_slice sl_list (pv 3) po_none (po_some (pe_op op_add pe_int (C8.pe_c (ok_law_draw T) hr (by decide) rfl (pa_cons (pv 0) (pa_cons (pv 1) pa_nil)))))))
      (pss_cons (ps_par (i := 6) (j := 7) rfl nd rfl rfl (by decide) rfl rfl (pa_cons pe_dnewK (pa_cons pe_dnewK pa_nil)) (by rfl))
      (pss_cons (ps_for PassesOwn.never rfl (pi_list (C8.pe_c (ok_law_places T) hr (by decide) rfl (pa_cons (pv 0) (pa_cons (pe_slice sl_list (pv 3) (po_some pe_int) po_none) (pa_cons (pv 2) pa_nil))))) (pg_name (i := 5) nd rfl (Or.inl rfl))
      (pss_cons (ps_par (i := 9) (j := 10) rfl nd rfl rfl (by decide) rfl rfl (pa_cons pe_dnewK (pa_cons pe_dnewK pa_nil)) (by rfl))
      (pss_cons (ps_for PassesOwn.never rfl (pi_list (pv 4)) (pg_name (i := 8) nd rfl (Or.inl rfl))
      (pss_cons (ps_par (i := 11) (j := 12) rfl nd rfl rfl (by decide) rfl rfl (pa_cons (C8.pe_c (ok_law_pick T) hr (by decide) rfl (pa_cons (pv 0) (pa_cons (pe_lst (pa_cons pe_str (pa_cons pe_str (pa_cons pe_str (pa_cons pe_str (pa_cons pe_str (pa_cons pe_str (pa_cons pe_str pa_nil)))))))) pa_nil))) (pa_cons (C8.pe_c (ok_law_draw T) hr (by decide) rfl (pa_cons (pv 0) (pa_cons pe_int pa_nil))) pa_nil)) (by rfl))
      (C8.pss_cut (ps_if (pt_cmpR op_in_seq (pv 11) (pe_tup (pa_cons pe_str (pa_cons pe_str (pa_cons pe_str pa_nil)))) (by rfl)) (pss_one (ps_dput hu (pv 9) (pv 8) (pe_ix ix_list (pv 3) (pv 12) (fun _ _ => rfl)) rfl)) pss_nil)
      (pss_one (ps_if (pt_cmpR op_in_seq (pv 11) (pe_tup (pa_cons pe_str (pa_cons pe_str (pa_cons pe_str pa_nil)))) (by rfl)) (pss_one (ps_dput hu (pv 10) (pv 8) (pe_ix ix_list (pv 3) (pe_op op_add (pv 12) (pe_callTy call_int1 (by rfl) T.z_int (by decide +kernel) (pa_cons (pe_cmpR op_ne (pv 11) pe_str (nomark _)) pa_nil))) (fun _ _ => rfl)) rfl)) pss_nil)))))
      (C8.pss_cut (ps_if (pt_cmpR (op_ne_emp hu) (pv 9) pe_dnewK (nomark _)) (pss_one (ps_dput hu (pv 6) (pv 5) (pv 9) rfl)) pss_nil)
      (pss_one (ps_if (pt_cmpR (op_ne_emp hu) (pv 10) pe_dnewK (nomark _)) (pss_one (ps_dput hu (pv 7) (pv 5) (pv 10) rfl)) pss_nil))))))
      (pss_one (ps_ret (pe_disp (pps_cons pe_str (pv 4) (pps_cons pe_str (pv 6) (pps_cons pe_str (pv 7) (pps_cons pe_str (pe_lst pa_nil) pps_nil)))) (by rfl) (by rfl) (fun z => by cases z) (by decide)))))))), ?_⟩
    walk_at "nf"
    refine ⟨_, rfl, p, c, N, rfl, hp, by omega, fun H1 L3 ns b1 hp1 h3n h3p h3L h6 => ?_⟩
    refine ⟨_, rfl, _, rfl, _, rfl, p, c, N + 7, wide, rfl, hp1, by omega, by omega, by omega, fun H2 r b2 hp2 hr2 => ⟨_, _, rfl, rfl, _, rfl, ?_⟩⟩
    have h3L2 := b2 _ _ h3p h3L
    refine ⟨L3, _, rfl, SqL.of h3L2, fun LC hLC => ?_⟩
    have hcut : cutV (ns.map V.str) none (some (1 + (r : Nat))) = (ns.take (1 + r)).map V.str := by
      have := cut_to (xs := ns.map V.str) (i := 1 + r)
      rw [List.map_take, ← this]
      congr 2
    have hcut2 : cutV (ns.map V.str) (some 2) none = (ns.drop 2).map V.str := by
      have e2 : HT.sIx (ns.map V.str).length 0 (some (2 : Int)) = 2 := by
        have := HT.sIx_nat (n := (ns.map V.str).length) (d := 0) (k := 2)
        rw [List.length_map, h6.len] at this ⊢
        exact this
      unfold cutV
      rw [e2, HT.sIx_none, List.length_map, List.map_drop, List.take_of_length_le (by rw [List.length_drop, List.length_map]; omega)]
    dsimp only
    rw [hcut]
    have hcols : OkCols (ns.take (1 + r)) := ⟨by rw [List.length_take, h6.len]; omega, by rw [List.length_take]; omega, fun x hx => h6.nm x (List.mem_of_mem_take hx), h6.nd.sublist (List.take_sublist _ _)⟩
    have hcl : (ns.take (1 + r)).length ≤ 2 := by rw [List.length_take]; omega
    have eC : Same H2 (upd H2 LC (.lst ((ns.take (1 + r)).map V.str))) := (Same.refl _).new hLC
    have h3C : upd H2 LC (.lst ((ns.take (1 + r)).map V.str)) LC = some (.lst ((ns.take (1 + r)).map V.str)) := upd_same
    generalize ns.take (1 + r) = cols at eC h3C hcols hcl
    have hp3 := Same.pen eC hp2
    have b03 : But p H (upd H2 LC (.lst (cols.map V.str))) := (b1.trans b2).trans (Same.but eC)
    have hLCp := (hp2.new hLC).2
    generalize upd H2 LC (.lst (cols.map V.str)) = H3 at eC h3C hp3 b03
    have h3L3 := eC _ _ h3L2
    obtain ⟨xs0, hx0⟩ := hp3.lst
    dsimp only [L2.tDNewK]
    intro d1 hd1 d2 hd2
    refine ⟨_, _, rfl, ?_⟩
    have ed : Same H3 (upd (upd H3 d1 (.dK [])) d2 (.dK [])) := ((Same.refl _).new hd1).new hd2
    have hd21 : d1 ≠ d2 := fun z => by rw [← z, upd_same] at hd2; cases hd2
    have hd2n : H3 d2 = none := ((Same.refl H3).new (o := .dK []) hd1).free hd2
    have h4d1 : upd (upd H3 d1 (.dK [])) d2 (.dK []) d1 = some (.dK []) := by rw [upd_ne hd21, upd_same]
    have h4d2 : upd (upd H3 d1 (.dK [])) d2 (.dK []) d2 = some (.dK []) := upd_same
    generalize upd (upd H3 d1 (.dK [])) d2 (.dK []) = H4 at ed h4d1 h4d2
    have hp4 := Same.pen ed hp3
    obtain ⟨hd1c, hd1p⟩ := hp3.new hd1
    obtain ⟨hd2c, hd2p⟩ := hp3.new hd2n
    refine ⟨_, rfl, _, rfl, _, rfl, L3, _, rfl, SqL.of (ed _ _ h3L3), fun LN hLN => ?_⟩
    rw [hcut2]
    have eN : Same H4 (upd H4 LN (.lst ((ns.drop 2).map V.str))) := (Same.refl _).new hLN
    refine ⟨_, rfl, p, c, N + 8, LN, ns.drop 2, rfl, Same.pen eN hp4, by omega, SqL.of upd_same, (hp4.new hLN).2, by rw [List.length_drop, h6.len]; omega, by rw [List.length_drop, h6.len]; omega, fun x hx => h6.nm x (List.drop_subset _ _ hx), fun H5 PL ps b5 hp5 hPLn hPLp hPLc hPL hpa hpl hpp => ⟨PL, rfl, ⟨_, SqL.of hPL⟩, ?_⟩⟩
    have b45 : But p H4 H5 := (Same.but eN).trans b5
    have b35 : But p H3 H5 := (Same.but ed).trans b45
    have hPLd1 : PL ≠ d1 := fun z => by rw [z, eN _ _ h4d1] at hPLn; cases hPLn
    have hPLd2 : PL ≠ d2 := fun z => by rw [z, eN _ _ h4d2] at hPLn; cases hPLn
    have h5d1 := b45 _ _ hd1p h4d1
    have h5d2 := b45 _ _ hd2p h4d2
    have emp : ∀ {H : Hp} {d : Addr}, H d = some (.dK []) → RowsAt H d [] := fun h => ⟨[], rfl, h, fun p hp => by cases hp⟩
    have rnil : RowsTo cols ps 0 [] := ⟨fun r hr => (by cases hr), fun r hr => (by cases hr), (by simp)⟩
    refine for_it (walk_list (xs := ps.map V.str)) (fun i σ H' => ∃ (one two : Rws) (o5 o8 o9 o10 o11 o12 : Option V), σ = [some (.ref p), some (.int wide), some (.int 5), some (.ref L3), some (.ref LC), o5, some (.ref d1), some (.ref d2), o8, o9, o10, o11, o12] ∧ But p H3 H' ∧ PenAt H' p c (N + 23 + 4 * i) ∧ H' PL = some (.lst (ps.map V.str)) ∧
        RowsAt H' d1 one ∧ RowsAt H' d2 two ∧ RowsTo cols ps i one ∧ RowsTo cols ps i two)
      ⟨[], [], none, none, none, none, none, none, rfl, b35, hp5.mono (by omega), hPL, emp h5d1, emp h5d2, rnil, rnil⟩ (fun i σ H' _ ⟨_, _, _, _, _, _, _, _, _, _, _, h, _⟩ => SqL.of h) ?_ ?_
    · rintro i v σ H6 H7 hi ⟨one, two, o5, o8, o9, o10, o11, o12, rfl, b7, hp7, h7L, hr1, hr2, t1, t2⟩ ⟨rfl, hv⟩
      obtain ⟨q, hq, rfl⟩ := get_map_str hv
      have hil : i < 6 := by rw [List.length_map] at hi; omega
      obtain ⟨ys0, hy0⟩ := hp7.lst
      walk_at "nf"
      dsimp only [L2.tDNewK]
      intro D9 hD9 D10 hD10
      refine ⟨_, _, rfl, ?_⟩
      have e78 : Same H7 (upd (upd H7 D9 (.dK [])) D10 (.dK [])) := ((Same.refl _).new hD9).new hD10
      have h910 : D9 ≠ D10 := fun z => by rw [← z, upd_same] at hD10; cases hD10
      have hD10n : H7 D10 = none := ((Same.refl H7).new (o := .dK []) hD9).free hD10
      have h89 : upd (upd H7 D9 (.dK [])) D10 (.dK []) D9 = some (cO []) := by rw [upd_ne h910, upd_same]; rfl
      have h810 : upd (upd H7 D9 (.dK [])) D10 (.dK []) D10 = some (cO []) := upd_same
      generalize upd (upd H7 D9 (.dK [])) D10 (.dK []) = H8 at e78 h89 h810
      have hp8 := Same.pen e78 hp7
      obtain ⟨h9c, h9p⟩ := hp7.new hD9
      obtain ⟨h10c, h10p⟩ := hp7.new hD10n
      have h7C := b7 _ _ hLCp h3C
      have h7L3 := b7 _ _ h3p h3L3
      have nil0 : CellsTo cols 0 [] := ⟨fun c hc => (by cases hc), fun c hc => (by cases hc), (by simp)⟩
      refine ⟨_, rfl, LC, rfl, ⟨_, SqL.of (e78 _ _ h7C)⟩, ?_⟩
      refine for_it (walk_list (xs := cols.map V.str)) (fun j σ H' => ∃ (r1 r2 : Cells) (o8 o11 o12 : Option V), σ = [some (.ref p), some (.int wide), some (.int 5), some (.ref L3), some (.ref LC), some (.str q), some (.ref d1), some (.ref d2), o8, some (.ref D9), some (.ref D10), o11, o12] ∧ But p H7 H' ∧ PenAt H' p c (N + 23 + 4 * i + 2 * j) ∧
          H' D9 = some (cO r1) ∧ H' D10 = some (cO r2) ∧ CellsTo cols j r1 ∧ CellsTo cols j r2)
        ⟨[], [], o8, o11, o12, rfl, Same.but e78, hp8, h89, h810, nil0, nil0⟩ (fun j σ H' _ ⟨_, _, _, _, _, _, b, _⟩ => SqL.of (b _ _ hLCp h7C)) ?_ ?_
      · rintro j v σ H9 HA hj ⟨r1, r2, q8, q11, q12, rfl, bA, hpA, hA9, hA10, c1, c2⟩ ⟨rfl, hv⟩
        obtain ⟨col, hcol, rfl⟩ := get_map_str hv
        have hjl : j < 2 := by rw [List.length_map] at hj; omega
        walk_at "nf"
        refine ⟨_, rfl, (by show 7 ≤ sizeLine; decide), fun l hl => ?_⟩
        have eL : Same HA (upd HA l (.lst [.str "none", .str "old", .str "new", .str "old", .str "new", .str "turned", .str "kept"])) := (Same.refl _).new hl
        refine ⟨p, c, N + 23 + 4 * i + 2 * j, l, _, rfl, Same.pen eL hpA, by omega, SqL.of upd_same, (hpA.new hl).2, (by show 0 < 7; decide), (by show 7 ≤ 1000; decide), fun HB x bB hpB hx => ?_⟩
        obtain ⟨kd, rfl⟩ : ∃ kd, x = V.str kd := by
          have hx : x ∈ (["none", "old", "new", "old", "new", "turned", "kept"] : List Str).map V.str := hx
          obtain ⟨kd, _, e⟩ := List.mem_map.mp hx
          exact ⟨kd, e.symm⟩
        refine ⟨_, rfl, p, c, N + 23 + 4 * i + 2 * j + 1, 5, rfl, hpB, by omega, by decide, by decide, fun HC at_ bC hpC hat => ⟨_, _, rfl, ?_⟩⟩
        have bAC : But p HA HC := (Same.but eL).trans (bB.trans bC)
        have b7C := bA.trans bAC
        have hC9 := bAC _ _ h9p hA9
        have hC10 := bAC _ _ h10p hA10
        have hat5 : at_ < 5 := by omega
        obtain ⟨nm0, hnm0⟩ : ∃ x, ns[at_]? = some x := ⟨_, List.getElem?_eq_getElem (by rw [h6.len]; omega)⟩
        obtain ⟨nm1, hnm1⟩ : ∃ x, ns[at_ + 1]? = some x := ⟨_, List.getElem?_eq_getElem (by rw [h6.len]; omega)⟩
        have l1 := c1.len
        have l2 := c2.len
        refine ⟨fun σ' H' => ∃ r1' : Cells, σ' = [some (.ref p), some (.int wide), some (.int 5), some (.ref L3), some (.ref LC), some (.str q), some (.ref d1), some (.ref d2), some (.str col), some (.ref D9), some (.ref D10), some (.str kd), some (.int (at_ : Nat))] ∧ But p H7 H' ∧ PenAt H' p c (N + 23 + 4 * i + 2 * (j + 1)) ∧
          H' D9 = some (cO r1') ∧ H' D10 = some (cO r2) ∧ CellsTo cols (j + 1) r1', ?_, ?_⟩
        · refine ⟨_, rfl, (by show 3 ≤ sizeLine; decide), fun t ht => ?_⟩
          have et : Same HC (upd HC t (.tup [.str "old", .str "turned", .str "kept"])) := (Same.refl _).new ht
          refine ⟨t, _, rfl, .inr (SqT.of upd_same), rfl, rfl, ?_⟩
          generalize upd HC t (.tup [.str "old", .str "turned", .str "kept"]) = HD at et
          have b7D := b7C.trans (Same.but et)
          have hD9' := et _ _ hC9
          have hD10' := et _ _ hC10
          refine ⟨_, rfl, ?_⟩
          have hin : inV (V.str kd) [.str "old", .str "turned", .str "kept"] = decide (kd ∈ (["old", "turned", "kept"] : List Str)) := inV_str (l := ["old", "turned", "kept"])
          rw [hin]
          have hpD := Same.pen et hpC
          by_cases hk : kd ∈ (["old", "turned", "kept"] : List Str)
          · rw [decide_eq_true hk]
            refine iteT ?_
            dsimp only [L2.sDPut, L2.tOp, L2.tVar]
            refine ⟨_, rfl, _, rfl, L3, _, _, _, rfl, rfl, SqL.of (b7D _ _ h3p h7L3), atI_nat (by rw [List.getElem?_map, hnm0]; rfl), _, rfl, _, rfl, D9, _, rfl, DPut.k (k := Sum.inr col) hD9' (by rw [List.length_map]; exact lt_size (by omega)), r1 ++ [(col, nm0)], rfl, b7D.mut hD9, (hpD.put h9c h9p).mono (by omega), ?_, (upd_ne h910.symm).trans hD10', c1.put hcols.nd hcol (h6.nm _ (List.mem_of_getElem? hnm0))⟩
            rw [upd_same, cells_put (c1.not hcols.nd hcol)]
            rfl
          · rw [decide_eq_false hk]
            exact iteF ⟨r1, rfl, b7D, hpD.mono (by omega), hD9', hD10', c1.more⟩
        · rintro σ' HD ⟨r1', rfl, b7D, hpD, hD9', hD10', c1'⟩
          refine ⟨_, rfl, (by show 3 ≤ sizeLine; decide), fun t ht => ?_⟩
          have et : Same HD (upd HD t (.tup [.str "new", .str "turned", .str "kept"])) := (Same.refl _).new ht
          refine ⟨t, _, rfl, .inr (SqT.of upd_same), rfl, rfl, ?_⟩
          generalize upd HD t (.tup [.str "new", .str "turned", .str "kept"]) = HE at et
          have b7E := b7D.trans (Same.but et)
          have hE9 := et _ _ hD9'
          have hE10 := et _ _ hD10'
          have hpE := Same.pen et hpD
          refine ⟨_, rfl, ?_⟩
          have hin : inV (V.str kd) [.str "new", .str "turned", .str "kept"] = decide (kd ∈ (["new", "turned", "kept"] : List Str)) := inV_str (l := ["new", "turned", "kept"])
          rw [hin]
          by_cases hk : kd ∈ (["new", "turned", "kept"] : List Str)
          · rw [decide_eq_true hk]
            refine iteT ?_
            dsimp only [L2.sDPut, L2.tOp, L2.tVar, L2.tCB, L2.tCons, L2.tNil, L2.tC]
            refine ⟨_, rfl, _, rfl, _, rfl, rfl, .inr ⟨_, rfl, _, _, rfl, rfl, ?_⟩⟩
            obtain ⟨nmx, hnx, ex⟩ : ∃ x, x ∈ ns ∧ atI (ns.map V.str) (((at_ : Nat) : Int) + (if (!decide (V.str kd = V.str ("kept" : Str))) = true then 1 else 0)) = some (.str x) := by
              by_cases hkk : V.str kd = V.str ("kept" : Str)
              · rw [decide_eq_true hkk]
                refine ⟨nm0, List.mem_of_getElem? hnm0, ?_⟩
                have e0 : ((at_ : Nat) : Int) + (if (!true) = true then 1 else 0) = ((at_ : Nat) : Int) := by simp
                rw [e0]
                exact atI_nat (by rw [List.getElem?_map, hnm0]; rfl)
              · rw [decide_eq_false hkk]
                refine ⟨nm1, List.mem_of_getElem? hnm1, ?_⟩
                have e0 : ((at_ : Nat) : Int) + (if (!false) = true then 1 else 0) = ((at_ + 1 : Nat) : Int) := by simp
                rw [e0]
                exact atI_nat (by rw [List.getElem?_map, hnm1]; rfl)
            refine ⟨L3, _, _, _, rfl, rfl, SqL.of (b7E _ _ h3p h7L3), ex, _, rfl, _, rfl, D10, _, rfl, DPut.k (k := Sum.inr col) hE10 (by rw [List.length_map]; exact lt_size (by omega)), r1', r2 ++ [(col, nmx)], _, _, _, rfl, b7E.mut hD10n, hpE.put h10c h10p, (upd_ne h910).trans hE9, ?_, c1', c2.put hcols.nd hcol (h6.nm _ hnx)⟩
            rw [upd_same, cells_put (c2.not hcols.nd hcol)]
            rfl
          · rw [decide_eq_false hk]
            exact iteF ⟨r1', r2, _, _, _, rfl, b7E, hpE, hE9, hE10, c1', c2.more⟩
      · rintro σ HA ⟨r1, r2, q8, q11, q12, rfl, bA, hpA, hA9, hA10, c1, c2⟩
        rw [List.length_map] at c1 c2 hpA
        have bA3 := b7.trans bA
        have hA1 := hr1.but bA hy0
        have hA2 := hr2.but bA hy0
        have hAL := bA _ _ hPLp h7L
        obtain ⟨kv1', hk1', _⟩ := hr1.opn
        obtain ⟨kv2', hk2', _⟩ := hr2.opn
        have n91 : D9 ≠ d1 := fun z => by rw [z, hk1'] at hD9; cases hD9
        have n92 : D9 ≠ d2 := fun z => by rw [z, hk2'] at hD9; cases hD9
        have n101 : D10 ≠ d1 := fun z => by rw [z, hk1'] at hD10n; cases hD10n
        have n102 : D10 ≠ d2 := fun z => by rw [z, hk2'] at hD10n; cases hD10n
        have ne1 : ∀ x ∈ one, x.2 ≠ [] := fun x hx => (t1.row x hx).ne
        have ne2 : ∀ x ∈ two, x.2 ≠ [] := fun x hx => (t2.row x hx).ne
        have to1 := t1.len
        have to2 := t2.len
        refine ⟨fun σ' H' => ∃ one' : Rws, σ' = [some (.ref p), some (.int wide), some (.int 5), some (.ref L3), some (.ref LC), some (.str q), some (.ref d1), some (.ref d2), q8, some (.ref D9), some (.ref D10), q11, q12] ∧ But p H3 H' ∧ PenAt H' p c (N + 23 + 4 * (i + 1)) ∧ H' PL = some (.lst (ps.map V.str)) ∧
          RowsAt H' d1 one' ∧ RowsAt H' d2 two ∧ RowsTo cols ps (i + 1) one' ∧ H' D10 = some (cO r2), ?_, ?_⟩
        · dsimp only [L2.tIfS, L2.tTest, L2.tOp, L2.tVar, L2.tDNewK]
          refine ⟨_, rfl, fun d hd => ⟨D9, d, _, rfl, rfl, (upd_ne (ne_of_none hA9 hd)).trans hA9, upd_same, ⟨_, rfl, ?_⟩⟩⟩
          have ee : Same HA (upd HA d (.dK [])) := (Same.refl _).new hd
          generalize upd HA d (.dK []) = HB at ee
          have bB3 := bA3.trans (Same.but ee)
          have hpB := Same.pen ee hpA
          have hB1 := Same.rows ee hA1
          have hB2 := Same.rows ee hA2
          by_cases hr : r1 = []
          · subst hr
            exact iteF ⟨one, rfl, bB3, hpB.mono (by omega), ee _ _ hAL, hB1, hB2, t1.more, ee _ _ hA10⟩
          · have hne : (!(r1.map fun c => ((Sum.inr c.1 : Key), V.str c.2)).isEmpty) = true := by
              cases r1 with
              | nil => exact absurd rfl hr
              | cons x t => rfl
            obtain ⟨kvs, hk1, hkl, _, _⟩ := hB1.opn
            have hq1 := t1.not hpa hq
            have hsn := hB1.snoc (r := (q, r1)) hk1 (ee _ _ hA9) hr ne1
            have hput : putK kvs (Sum.inr q) (.ref D9) = kvs ++ [(.inr q, .ref D9)] := putK_new _ (hB1.non hk1 hq1)
            refine (show (if (!(r1.map fun c => ((Sum.inr c.1 : Key), V.str c.2)).isEmpty) = true then _ else _) from ?_)
            rw [hne]
            refine iteT ?_
            dsimp only [L2.sDPut, L2.tVar]
            refine ⟨_, rfl, _, rfl, _, rfl, d1, _, rfl, DPut.k (k := Sum.inr q) hk1 (lt_size (by omega)), ?_⟩
            rw [hput]
            exact ⟨one ++ [(q, r1)], rfl, bB3.mut hd1, (hpB.put hd1c hd1p).mono (by omega), (upd_ne hPLd1).trans (ee _ _ hAL), hsn, hB2.other hB1 hd21 ne2, t1.put hpa hq (c1.ok hcols hr), (upd_ne n101).trans (ee _ _ hA10)⟩
        · rintro σ' HB ⟨one', rfl, bB3, hpB, hBL, hB1, hB2, t1', hB10⟩
          dsimp only [L2.tIfS, L2.tTest, L2.tOp, L2.tVar, L2.tDNewK]
          refine ⟨_, rfl, fun d hd => ⟨D10, d, _, rfl, rfl, (upd_ne (ne_of_none hB10 hd)).trans hB10, upd_same, ⟨_, rfl, ?_⟩⟩⟩
          have ee : Same HB (upd HB d (.dK [])) := (Same.refl _).new hd
          generalize upd HB d (.dK []) = HC at ee
          have bC3 := bB3.trans (Same.but ee)
          have hpC := Same.pen ee hpB
          have hC1 := Same.rows ee hB1
          have hC2 := Same.rows ee hB2
          have ne1' : ∀ x ∈ one', x.2 ≠ [] := fun x hx => (t1'.row x hx).ne
          by_cases hr : r2 = []
          · subst hr
            exact iteF ⟨one', two, _, _, _, _, _, _, rfl, bC3, hpC, ee _ _ hBL, hC1, hC2, t1', t2.more⟩
          · have hne : (!(r2.map fun c => ((Sum.inr c.1 : Key), V.str c.2)).isEmpty) = true := by
              cases r2 with
              | nil => exact absurd rfl hr
              | cons x t => rfl
            obtain ⟨kvs, hk2, hkl, _, _⟩ := hC2.opn
            have hq2 := t2.not hpa hq
            have hsn := hC2.snoc (r := (q, r2)) hk2 (ee _ _ hB10) hr ne2
            have hput : putK kvs (Sum.inr q) (.ref D10) = kvs ++ [(.inr q, .ref D10)] := putK_new _ (hC2.non hk2 hq2)
            refine (show (if (!(r2.map fun c => ((Sum.inr c.1 : Key), V.str c.2)).isEmpty) = true then _ else _) from ?_)
            rw [hne]
            refine iteT ?_
            dsimp only [L2.sDPut, L2.tVar]
            refine ⟨_, rfl, _, rfl, _, rfl, d2, _, rfl, DPut.k (k := Sum.inr q) hk2 (lt_size (by omega)), ?_⟩
            rw [hput]
            exact ⟨one', two ++ [(q, r2)], _, _, _, _, _, _, rfl, bC3.mut hd2n, hpC.put hd2c hd2p, (upd_ne hPLd2).trans (ee _ _ hBL), hC1.other hC2 hd21.symm ne1', hsn, t1', t2.put hpa hq (c2.ok hcols hr)⟩
    · rintro σ H6 ⟨one, two, o5, o8, o9, o10, o11, o12, rfl, b6, hp6, h6L, hr1, hr2, t1, t2⟩
      rw [List.length_map] at t1 t2 hp6
      walk_at "nf"
      intro sa hsa
      have es : Same H6 (upd H6 sa (.dK [])) := (Same.refl _).new hsa
      have hs0 : upd H6 sa (.dK []) sa = some (.dK []) := upd_same
      dsimp only [L2.tPairs, L2.tC, L2.tVar, L2.tLst, L2.tNil]
      refine ⟨_, rfl, _, rfl, _, rfl, Nat.zero_le _, fun ld hld => ?_⟩
      have el : Same (upd H6 sa (.dK [])) (upd (upd H6 sa (.dK [])) ld (.lst [])) := (Same.refl _).new hld
      have hs1 := el _ _ hs0
      have h1l : upd (upd H6 sa (.dK [])) ld (.lst []) ld = some (.lst []) := upd_same
      have hls : ld ≠ sa := (ne_of_none hs0 hld).symm
      generalize upd (upd H6 sa (.dK [])) ld (.lst []) = H7 at el hs1 h1l
      have e67 : Same H6 H7 := es.trans el
      refine ⟨hs1, [(.inr "columns", .ref LC), (.inr "first", .ref d1), (.inr "second", .ref d2), (.inr "divided", .ref ld)], rfl, by show 4 ≤ 15; decide, ?_⟩
      have hm : mergeK [] [((Sum.inr "columns" : Key), V.ref LC), (.inr "first", .ref d1), (.inr "second", .ref d2), (.inr "divided", .ref ld)] = [(.inr "columns", .ref LC), (.inr "first", .ref d1), (.inr "second", .ref d2), (.inr "divided", .ref ld)] := by
        have n1 : ¬ ("columns" : Str) = "first" := by decide +kernel
        have n2 : ¬ ("columns" : Str) = "second" := by decide +kernel
        have n3 : ¬ ("columns" : Str) = "divided" := by decide +kernel
        have n4 : ¬ ("first" : Str) = "second" := by decide +kernel
        have n5 : ¬ ("first" : Str) = "divided" := by decide +kernel
        have n6 : ¬ ("second" : Str) = "divided" := by decide +kernel
        unfold mergeK
        rw [List.foldl_cons, List.foldl_cons, List.foldl_cons, List.foldl_cons, List.foldl_nil]
        simp only [putK, List.any_nil, List.any_cons, List.nil_append, List.cons_append, Sum.inr.injEq, n1, n2, n3, n4, n5, n6, decide_false, Bool.or_false, Bool.false_eq_true, if_false]
      rw [hm]
      have hH : H sa = none := b03.free (b6.free hsa hp6.lst_some) hp3.lst_some
      obtain ⟨hsc, hsp⟩ := hp6.new hsa
      have hfin : Same H6 (upd H7 sa (.dK [(.inr "columns", .ref LC), (.inr "first", .ref d1), (.inr "second", .ref d2), (.inr "divided", .ref ld)])) := e67.mut hsa
      have hnd : (spots one two).Nodup := List.Pairwise.imp (R := ltS) (S := (· ≠ ·)) (fun {a b} h e => by subst e; exact ltS_irr a h) (pw_usrt _)
      have hsl := len_sub hnd (spots_sub t1 t2)
      exact k _ sa cols one two ((b03.trans b6).trans (Same.but hfin)) ((Same.pen hfin hp6).mono (by omega)) hH
        ⟨LC, d1, d2, ld, upd_same, hfin _ _ (b6 _ _ hLCp h3C), Same.rows hfin hr1, Same.rows hfin hr2, (upd_ne hls).trans h1l⟩ hcols (t1.ok hpl hpp) (t2.ok hpl hpp) (by omega) fun q hq => hpp q (spots_sub t1 t2 q hq)
end
end NS
set_option Elab.async false
set_option linter.all false
set_option maxRecDepth 100000
set_option maxHeartbeats 4000000
/-! Exchanges: the steps told, kinds. -/
namespace NS
open PySem PySem.Spec PyProof.Rows L2 He
local macro_rules | `(tactic| walk_at "nf") => `(tactic| dsimp only [L2.tNext, L2.tSeq, L2.tDrop, L2.tRet, L2.tRetN, L2.tIfS, L2.tAsg, L2.gName, L2.gCons, L2.gNil, L2.gTup, L2.tOp, L2.tUn, L2.tTest, L2.tChain, L2.tB, L2.tAnd, L2.tOr, L2.tNot, L2.tAndV, L2.tOrV, L2.tNotV, L2.tIf, L2.tCB, L2.tNil, L2.tCons, L2.tTup, L2.tLst, L2.tFld, L2.sFld, L2.tCall, L2.tMeth, L2.tMake, L2.tBM, L2.tBM0, L2.tM1, L2.tM0, L2.tSl, L2.tPart, L2.tNoPart, L2.tPar, L2.tVar, L2.tC, L2.cxOf, L2.tYes, C8.tCut])
/-- a list that changes is no step, nor its columns -/
theorem stepU {K : PySem.W.Frag} {H : Hp} {l a : Addr} {xs : List V} {o : HO} {w p : Str} {cols : List Str} (hl : H l = some (.lst xs)) (h : StepAt K H a w p cols) : StepAt K (upd H l o) a w p cols := by
  obtain ⟨C, dx, ct, hh, h1, h2, h3, h4, h5, h6⟩ := h.ex
  refine ⟨C, dx, ct, hh, (upd_ne (fun e => by rw [e, hl] at h1; cases h1)).trans h1, h2, h3, h4, h5, ?_⟩
  rcases h6 with (h6 | ⟨u, h6⟩) | h6
  · exact .inl (.inl ((upd_ne (fun e => by rw [e, hl] at h6; cases h6)).trans h6))
  · exact .inl (.inr ⟨u, (upd_ne (fun e => by rw [e, hl] at h6; cases h6)).trans h6⟩)
  · exact .inr h6
section
variable {P : Program} {w : World} {K : PySem.W.Frag} {mg : Str → Option Value} {base : Heap}
def sp_steps_told (K : PySem.W.Frag) : Sp := fun vs H Q _ => ∃ x cols one two, vs = [.ref x] ∧ FHeld K H x cols one two ∧ FCols K H x cols ∧ FSpots K H x (spots one two) ∧ FDiv K H x ∧ OkCols cols ∧ OkRows cols one ∧ OkRows cols two ∧
  ∀ H' l as, Same H H' → H l = none → H' l = some (.lst (as.map V.ref)) → StepsAt K H' as (stepsL cols one two) → Q (.ref l) H'
theorem sc_Exchange_steps_told : FnScope ["self", "found", "place"] ["self"] (defScope sExchange_steps_told) := ⟨rfl, rfl, rfl, by decide +kernel, rfl, by decide +kernel, by decide +kernel⟩
theorem ok_Exchange_steps_told (T : Tx K mg) : C8.Met P w K mg base 9 (ga K "Exchange") "steps_told" (sp_steps_told K) [] := by
  refine met_of T.cl_Exchange T.m_Exchange_steps_told T.f_Exchange_steps_told sc_Exchange_steps_told (fun _ _ _ _ _ _ us hl => match us, hl with | [_], _ => rfl) (fun vs H Q E h => ?_) (fun cdv A outer s H vs Q E hr h => ?_)
  · obtain ⟨x, cols, one, two, rfl, _⟩ := h
    rfl
  · obtain ⟨x, cols, one, two, rfl, hh, hco, hsp, hdv, hc, h1, h2, k⟩ := h
    have nd := sc_Exchange_steps_told.nd
    refine ⟨_, (pss_cons (ps_set (i := 1) nd rfl (Or.inl rfl) (pe_lst pa_nil))
      (pss_cons (ps_for PassesOwn.never rfl (pi_tup (pe_fld (pv 0) rfl)) (pg_name (i := 2) nd rfl (Or.inl rfl))
      (pss_one (ps_expr (pe_bm PySem.F.plainAttrs_list PySem.F.slot_list_extend PySem.F.type_list_extend mt_extend (pv 1) (pa_cons (pe_callKC (okK_steps_at T) hr (by decide) rfl (pa_cons (pv 2) (pa_cons (pe_fld (pv 0) rfl) (pa_cons (C8.pe_mt (ok_Exchange_rows_at T) hr (by decide) (pv 0) (pa_cons (pv 2) pa_nil)) pa_nil))) (pk_cons (pe_cmpR op_in_seq (pv 2) (pe_fld (pv 0) rfl) (by rfl)) pk_nil)) pa_nil)))))
      (pss_one (ps_ret (pv 1))))), ?_⟩
    walk_at "nf"
    refine ⟨Nat.zero_le _, fun l hl => ?_⟩
    have hl40 := len_spots h1 h2
    obtain ⟨sc, s1, s2⟩ := hsp
    have e0 : Same H (upd H l (.lst [])) := (Same.refl _).new hl
    refine ⟨_, rfl, (Same.xf e0 s1).fld T.cl_Exchange T.n_Exchange_spots ⟨sc, rfl, ⟨_, Same.tup e0 s2⟩, ?_⟩⟩
    refine for_it (walk_tup (xs := (spots one two).map V.str)) (fun i σ H' => ∃ o as, σ = [some (.ref x), some (.ref l), o] ∧ Same H H' ∧ H' l = some (.lst (as.map V.ref)) ∧ StepsAt K H' as (((spots one two).take i).filterMap (stepOf cols one two)))
      ⟨none, [], rfl, e0, upd_same, ⟨rfl, fun i a s q => by simp at q⟩⟩ (fun i σ H' _ ⟨_, _, _, e, _⟩ => Same.tup e s2) ?_ ?_
    · rintro i v σ H0 H1 hi ⟨o, as, rfl, e, hl1, hst⟩ ⟨rfl, hv⟩
      obtain ⟨p, hp, rfl⟩ := get_map_str hv
      obtain ⟨cc, c1, c2⟩ := Same.fcols e hco
      obtain ⟨dd, d1, d2⟩ := Same.fdiv e hdv
      walk_at "nf"
      refine ⟨_, rfl, .inl ⟨rfl, _, SqL.of hl1⟩, _, rfl, _, rfl, c1.fld T.cl_Exchange T.n_Exchange_columns ⟨_, rfl, ?_⟩⟩
      refine c1.meth (by decide +kernel) ⟨_, rfl, x, p, cols, one, two, rfl, Same.fheld e hh, h1, h2, fun H2 t b a e2 ht htup hb ha => ?_⟩
      refine ⟨_, rfl, _, rfl, (Same.xf e2 d1).fld T.cl_Exchange T.n_Exchange_divided ⟨dd, [], rfl, .inr (Same.tup e2 d2), rfl, rfl, rfl, rfl, p, cc, t, b, a, cols, rowOf one p, rowOf two p, rfl, Same.tup e2 c2, SqT.of htup, hb, ha, hc, ?_, ?_⟩⟩
      · intro hno H3 q e3 hq hql
        have hl3 : H3 l = some (.lst (as.map V.ref)) := e3 _ _ (e2 _ _ hl1)
        refine ⟨l, q, _, _, rfl, rfl, hl3, hql, ?_, ?_⟩
        · rw [List.length_map, hst.len]
          have := List.length_filterMap_le (stepOf cols one two) ((spots one two).take i)
          rw [List.length_take] at this
          exact le_size (by simp only [List.length_nil]; omega)
        · have hso : stepOf cols one two p = none := by
            unfold stepOf stepsAt
            rw [if_pos hno]
          refine ⟨_, as, rfl, ((e.trans e2).trans e3).mut hl, by rw [upd_same, List.append_nil], ?_⟩
          have et : ((spots one two).take (i + 1)).filterMap (stepOf cols one two) = ((spots one two).take i).filterMap (stepOf cols one two) := by
            rw [take_snoc hp, List.filterMap_append]
            have : List.filterMap (stepOf cols one two) [p] = [] := by simp [hso]
            rw [this, List.append_nil]
          rw [et]
          exact ⟨hst.len, fun j a' s' q1 q2 => stepU hl3 (Same.step (e2.trans e3) (hst.at_ j a' s' q1 q2))⟩
      · intro hyes H3 q s3 e3 hq hql hs3
        have hl3 : H3 l = some (.lst (as.map V.ref)) := e3 _ _ (e2 _ _ hl1)
        refine ⟨l, q, _, _, rfl, rfl, hl3, hql, ?_, ?_⟩
        · rw [List.length_map, hst.len]
          have := List.length_filterMap_le (stepOf cols one two) ((spots one two).take i)
          rw [List.length_take] at this
          exact le_size (by simp only [List.length_singleton]; omega)
        · have hso : stepOf cols one two p = some (wordOf (rowOf one p) (rowOf two p), p, chg cols (rowOf one p) (rowOf two p)) := by
            unfold stepOf stepsAt
            rw [if_neg hyes]
          refine ⟨_, as ++ [s3], rfl, ((e.trans e2).trans e3).mut hl, by rw [upd_same, List.map_append]; rfl, ?_⟩
          rw [take_snoc hp, List.filterMap_append]
          have : List.filterMap (stepOf cols one two) [p] = [(wordOf (rowOf one p) (rowOf two p), p, chg cols (rowOf one p) (rowOf two p))] := by simp [hso]
          rw [this]
          exact StepsAt.snoc ⟨hst.len, fun j a' s' q1 q2 => stepU hl3 (Same.step (e2.trans e3) (hst.at_ j a' s' q1 q2))⟩ (stepU hl3 hs3)
    · rintro σ H1 ⟨o, as, rfl, e, hl1, hst⟩
      have ek : (spots one two).take ((spots one two).map V.str).length = spots one two := List.take_of_length_le (by rw [List.length_map]; exact Nat.le_refl _)
      rw [ek] at hst
      exact ⟨_, rfl, k _ l as e hl hl1 hst⟩
end
end NS
set_option Elab.async false
set_option linter.all false
set_option maxRecDepth 100000
set_option maxHeartbeats 4000000
/-! Exchanges: kinds, the place above, sentences. -/
namespace NS
open PySem PySem.Spec PyProof.Rows L2 He
local macro_rules | `(tactic| walk_at "nf") => `(tactic| dsimp only [L2.tNext, L2.tSeq, L2.tDrop, L2.tRet, L2.tRetN, L2.tIfS, L2.tAsg, L2.gName, L2.gCons, L2.gNil, L2.gTup, L2.tOp, L2.tUn, L2.tTest, L2.tChain, L2.tB, L2.tAnd, L2.tOr, L2.tNot, L2.tAndV, L2.tOrV, L2.tNotV, L2.tIf, L2.tCB, L2.tNil, L2.tCons, L2.tTup, L2.tLst, L2.tFld, L2.sFld, L2.tCall, L2.tMeth, L2.tMake, L2.tBM, L2.tBM0, L2.tM1, L2.tM0, L2.tSl, L2.tPart, L2.tNoPart, L2.tPar, L2.tVar, L2.tC, L2.cxOf, L2.tYes, C8.tCut])
def ans (rows : Rws) (p c : Str) : Option Str := cell (rowOf rows p) c
def kindX (one two : Rws) (p c : Str) : Option Str := kOf (ans one p c) (ans two p c)
def AnsAt (H : Hp) (d : Addr) (rows : Rws) : Prop := ∃ kvs : List (List Key × V), H d = some (.dT kvs) ∧ ∀ p c, valV kvs [.inr p, .inr c] = (ans rows p c).map V.str
def FAns (K : PySem.W.Frag) (H : Hp) (x : Addr) (one two : Rws) : Prop := ∃ a d1 d2, XF K H x "answers" (.ref a) ∧ SqT K H a [.ref d1, .ref d2] ∧ AnsAt H d1 one ∧ AnsAt H d2 two
theorem Same.ans {H H' : Hp} {d : Addr} {rows : Rws} (e : Same H H') (h : AnsAt H d rows) : AnsAt H' d rows := let ⟨k, a, b⟩ := h; ⟨k, e _ _ a, b⟩
theorem Same.fans {K : PySem.W.Frag} {H H' : Hp} {x : Addr} {one two : Rws} (e : Same H H') (h : FAns K H x one two) : FAns K H' x one two := let ⟨a, d1, d2, h1, h2, h3, h4⟩ := h; ⟨a, d1, d2, Same.xf e h1, Same.tup e h2, Same.ans e h3, Same.ans e h4⟩
theorem op_getD (o : Option Str) : (o.map V.str).getD V.non = optV o := by cases o <;> rfl
def abv (one two : Rws) (c : Str) : Nat → List (List Nat) → Option (List (List Nat))
  | 0, _ => none
  | k + 1, ns => if (kindX one two (txt ns.dropLast) c).isSome then some ns.dropLast else abv one two c k ns.dropLast
def oV : Option (List (List Nat)) → V
  | none => .non
  | some m => .str (txt m)
def upO (ns : List (List Nat)) : Option (List (List Nat)) := if ns = [] then none else some ns.dropLast
theorem upV_o (ns : List (List Nat)) : upV ns = oV (upO ns) := by
  unfold upV upO
  by_cases h : ns = []
  · rw [if_pos h, if_pos h]; rfl
  · rw [if_neg h, if_neg h]; rfl
def resO (one two : Rws) (c : Str) : Option (List (List Nat)) → Option (List (List Nat))
  | none => none
  | some m => if (kindX one two (txt m) c).isSome then some m else abv one two c m.length m
theorem res_up (one two : Rws) (c : Str) (ns : List (List Nat)) : resO one two c (upO ns) = abv one two c ns.length ns := by
  unfold upO
  by_cases h : ns = []
  · rw [if_pos h, h]
    rfl
  · rw [if_neg h]
    have hp := List.length_pos_iff.mpr h
    obtain ⟨k, hk⟩ : ∃ k, ns.length = k + 1 := ⟨ns.length - 1, by omega⟩
    rw [hk]
    show (if _ then _ else abv one two c ns.dropLast.length ns.dropLast) = (if _ then _ else abv one two c k ns.dropLast)
    rw [List.length_dropLast, hk, Nat.add_sub_cancel]
theorem OkP.up {ns : List (List Nat)} (h : OkP ns) : OkP ns.dropLast := ⟨by rw [List.length_dropLast]; have := h.len; omega, fun n hn => h.ok n (List.dropLast_subset _ hn)⟩
theorem upO_ok {ns m : List (List Nat)} (h : OkP ns) (e : upO ns = some m) : OkP m ∧ m.length < ns.length := by
  unfold upO at e
  by_cases h0 : ns = []
  · rw [if_pos h0] at e
    cases e
  · rw [if_neg h0] at e
    cases e
    have := List.length_pos_iff.mpr h0
    exact ⟨h.up, by rw [List.length_dropLast]; omega⟩
theorem abv_ok {one two : Rws} {c : Str} : ∀ {k : Nat} {ns m : List (List Nat)}, OkP ns → abv one two c k ns = some m → OkP m ∧ (kindX one two (txt m) c).isSome = true
  | 0, _, _, _, h => by cases h
  | k + 1, ns, m, hp, h => by
    unfold abv at h
    split at h
    · rename_i g
      cases h
      exact ⟨hp.up, g⟩
    · exact abv_ok hp.up h
section
variable {P : Program} {w : World} {K : PySem.W.Frag} {mg : Str → Option Value} {base : Heap}
def sp_Ex_len (K : PySem.W.Frag) : Sp := fun vs H Q _ => ∃ x sts, vs = [.ref x] ∧ FSteps K H x sts ∧ Q (.int sts.length) H
theorem sc_Exchange_len : FnScope ["self"] ["self"] (defScope sExchange_len) := ⟨rfl, rfl, rfl, by decide +kernel, rfl, by decide +kernel, by decide +kernel⟩
theorem ok_Exchange_len (T : Tx K mg) : C8.Met P w K mg base 1 (ga K "Exchange") "__len__" (sp_Ex_len K) [] := by
  refine met_of T.cl_Exchange T.m_Exchange_len T.f_Exchange_len sc_Exchange_len (fun _ _ _ _ _ _ us hl => match us, hl with | [_], _ => rfl) (fun vs H Q E h => ?_) (fun cdv A outer s H vs Q E hr h => ?_)
  · obtain ⟨x, sts, rfl, _⟩ := h
    rfl
  · obtain ⟨x, sts, rfl, ⟨c, as, h1, h2, h3⟩, k⟩ := h
    have nd := sc_Exchange_len.nd
    refine ⟨_, (pss_one (ps_ret (pe_callB call_len_seq (by rfl) T.z_len (by decide +kernel) (pa_cons (pe_fld (pv 0) rfl) pa_nil)))), ?_⟩
    walk_at "nf"
    refine ⟨_, rfl, h1.fld T.cl_Exchange T.n_Exchange_steps ⟨c, _, rfl, .inr h2, ?_⟩⟩
    rw [List.length_map, h3.len]
    exact k
def sp_kind_at (K : PySem.W.Frag) : Sp := fun vs H Q _ => ∃ x p c one two, vs = [.ref x, .str p, .str c] ∧ FAns K H x one two ∧ ∀ H', Same H H' → Q (optV (kindX one two p c)) H'
theorem sc_Exchange_kind_at : FnScope ["self", "place", "column", "one", "two"] ["self", "place", "column"] (defScope sExchange_kind_at) := ⟨rfl, rfl, rfl, by decide +kernel, rfl, by decide +kernel, by decide +kernel⟩
theorem ok_Exchange_kind_at (T : Tx K mg) : C8.Met P w K mg base 2 (ga K "Exchange") "kind_at" (sp_kind_at K) [] := by
  refine met_of T.cl_Exchange T.m_Exchange_kind_at T.f_Exchange_kind_at sc_Exchange_kind_at (fun _ _ _ _ _ _ us hl => match us, hl with | [_, _, _], _ => rfl) (fun vs H Q E h => ?_) (fun cdv A outer s H vs Q E hr h => ?_)
  · obtain ⟨x, p, c, one, two, rfl, _⟩ := h
    rfl
  · obtain ⟨x, p, c, one, two, rfl, ⟨a, d1, d2, h1, h2, h3, h4⟩, k⟩ := h
    have nd := sc_Exchange_kind_at.nd
    have hu := hu_of hr
    refine ⟨_, (pss_cons (ps_asg (pe_fld (pv 0) rfl) (pg_tup (by rfl) (pgs_cons (pg_name (i := 3) nd rfl (Or.inl rfl)) (pgs_cons (pg_name (i := 4) nd rfl (Or.inl rfl)) pgs_nil))))
      (pss_one (ps_ret (C8.pe_c (ok_kind_of T) hr (by decide) rfl (pa_cons (pe_dget1 hu (pv 3) (pe_tup (pa_cons (pv 1) (pa_cons (pv 2) pa_nil))) ⟨rfl, rfl, rfl, rfl⟩) (pa_cons (pe_dget1 hu (pv 4) (pe_tup (pa_cons (pv 1) (pa_cons (pv 2) pa_nil))) ⟨rfl, rfl, rfl, rfl⟩) pa_nil)))))), ?_⟩
    walk_at "nf"
    obtain ⟨k1, g1, g2⟩ := h3
    refine ⟨_, rfl, h1.fld T.cl_Exchange T.n_Exchange_answers ⟨a, _, rfl, h2, rfl, _, _, rfl, _, _, rfl, rfl, _, rfl, d1, rfl, .inr ⟨_, .inl g1⟩, _, rfl, _, rfl, (by show 2 ≤ sizeLine; decide), fun t1 ht1 => ?_⟩⟩
    have e1 : Same H (upd H t1 (.tup [.str p, .str c])) := (Same.refl _).new ht1
    refine ⟨valV k1 [.inr p, .inr c], DGet.t (e1 _ _ g1) upd_same, ?_⟩
    obtain ⟨k2, g3, g4⟩ := Same.ans e1 h4
    refine ⟨_, rfl, d2, rfl, .inr ⟨_, .inl g3⟩, _, rfl, _, rfl, (by show 2 ≤ sizeLine; decide), fun t2 ht2 => ?_⟩
    have e2 := e1.new (o := .tup [.str p, .str c]) ht2
    refine ⟨valV k2 [.inr p, .inr c], DGet.t ((upd_ne (ne_of_none g3 ht2)).trans g3) upd_same, ?_⟩
    rw [g2, g4, op_getD, op_getD]
    exact ⟨_, _, rfl, k _ e2⟩
def sp_place_above (K : PySem.W.Frag) : Sp := fun vs H Q _ => ∃ x ns c one two, vs = [.ref x, .str (txt ns), .str c] ∧ OkP ns ∧ FAns K H x one two ∧ ∀ H', Same H H' → Q (oV (abv one two c ns.length ns)) H'
theorem sc_Exchange_place_above : FnScope ["self", "place", "column", "found"] ["self", "place", "column"] (defScope sExchange_place_above) := ⟨rfl, rfl, rfl, by decide +kernel, rfl, by decide +kernel, by decide +kernel⟩
theorem ok_Exchange_place_above (T : Tx K mg) : C8.Met P w K mg base 3 (ga K "Exchange") "place_above" (sp_place_above K) [] := by
  refine met_of T.cl_Exchange T.m_Exchange_place_above T.f_Exchange_place_above sc_Exchange_place_above (fun _ _ _ _ _ _ us hl => match us, hl with | [_, _, _], _ => rfl) (fun vs H Q E h => ?_) (fun cdv A outer s H vs Q E hr h => ?_)
  · obtain ⟨x, ns, c, one, two, rfl, _⟩ := h
    rfl
  · obtain ⟨x, ns, c, one, two, rfl, hp, ha, k⟩ := h
    have nd := sc_Exchange_place_above.nd
    refine ⟨_, (pss_cons (ps_set (i := 3) nd rfl (Or.inl rfl) (C8.pe_c (ok_text_above T) hr (by decide) rfl (pa_cons (pv 1) pa_nil)))
      (pss_cons (ps_while PassesOwn.never (PW.pt (pw_and (pt_cmpR op_notN (pv 3) pe_non (nomark _)) (pw_and1 (pt_cmpR op_isN (C8.pe_mt (ok_Exchange_kind_at T) hr (by decide) (pv 0) (pa_cons (pv 3) (pa_cons (pv 2) pa_nil))) pe_non (nomark _))))) (pss_one (ps_set (i := 3) nd rfl (Or.inl rfl) (C8.pe_c (ok_text_above T) hr (by decide) rfl (pa_cons (pv 3) pa_nil)))))
      (pss_one (ps_ret (pv 3))))), ?_⟩
    walk_at "nf"
    refine ⟨_, rfl, ns, rfl, hp, ?_⟩
    rw [upV_o]
    let ms : Option (List (List Nat)) → Nat := fun o => match o with | none => 0 | some m => m.length + 1
    have okO : ∀ {ns : List (List Nat)}, OkP ns → ∀ m, upO ns = some m → OkP m := fun h m e => (upO_ok h e).1
    refine ⟨fun m σ H' => ∃ o, σ = [some (.ref x), some (.str (txt ns)), some (.str c), some (oV o)] ∧ Same H H' ∧ m = ms o ∧ (∀ m, o = some m → OkP m) ∧ resO one two c o = abv one two c ns.length ns,
      ⟨_, upO ns, rfl, Same.refl _, rfl, okO hp, res_up one two c ns⟩, ?_⟩
    rintro m σ H1 ⟨o, rfl, e, rfl, hok, hres⟩
    walk_at "nf"
    cases o with
    | none =>
      refine ⟨_, rfl, rfl, _, rfl, iteF ⟨_, rfl, ?_⟩⟩
      have : abv one two c ns.length ns = none := hres.symm
      rw [this] at k
      exact k _ e
    | some m =>
      obtain ⟨a, d1, d2, h1, _⟩ := Same.fans e ha
      refine ⟨_, rfl, rfl, _, rfl, iteT ⟨_, rfl, h1.meth (by decide +kernel) ⟨_, rfl, _, rfl, x, txt m, c, one, two, rfl, Same.fans e ha, fun H2 e2 => ?_⟩⟩⟩
      cases hk : kindX one two (txt m) c with
      | none =>
        refine ⟨rfl, _, rfl, iteT ⟨fun σ' H' => ∃ m', m' < m.length + 1 ∧ ∃ o, σ' = [some (.ref x), some (.str (txt ns)), some (.str c), some (oV o)] ∧ Same H H' ∧ m' = ms o ∧ (∀ m, o = some m → OkP m) ∧ resO one two c o = abv one two c ns.length ns, fun _ _ h => h, _, rfl, m, rfl, hok m rfl, ?_⟩⟩
        rw [upV_o]
        refine ⟨ms (upO m), ?_, upO m, rfl, e.trans e2, rfl, okO (hok m rfl), ?_⟩
        · cases hu : upO m with
          | none => exact Nat.succ_pos _
          | some m' => exact Nat.succ_lt_succ (upO_ok (hok m rfl) hu).2
        · rw [res_up, ← hres]
          unfold resO
          dsimp only
          rw [hk]
          rfl
      | some kd =>
        refine ⟨rfl, _, rfl, iteF ⟨_, rfl, ?_⟩⟩
        have : abv one two c ns.length ns = some m := by
          rw [← hres]
          unfold resO
          dsimp only
          rw [hk]
          rfl
        rw [this] at k
        exact k _ (e.trans e2)
end
end NS
set_option Elab.async false
set_option linter.all false
set_option maxRecDepth 100000
set_option maxHeartbeats 4000000
/-! Exchanges: sentences. -/
namespace NS
open PySem PySem.Spec PyProof.Rows L2 He
local macro_rules | `(tactic| walk_at "nf") => `(tactic| dsimp only [L2.tNext, L2.tSeq, L2.tDrop, L2.tRet, L2.tRetN, L2.tIfS, L2.tAsg, L2.gName, L2.gCons, L2.gNil, L2.gTup, L2.tOp, L2.tUn, L2.tTest, L2.tChain, L2.tB, L2.tAnd, L2.tOr, L2.tNot, L2.tAndV, L2.tOrV, L2.tNotV, L2.tIf, L2.tCB, L2.tNil, L2.tCons, L2.tTup, L2.tLst, L2.tFld, L2.sFld, L2.tCall, L2.tMeth, L2.tMake, L2.tBM, L2.tBM0, L2.tM1, L2.tM0, L2.tSl, L2.tPart, L2.tNoPart, L2.tPar, L2.tVar, L2.tC, L2.cxOf, L2.tYes, C8.tCut])
/-- a walk, its body told as one thing -/
theorem any_it {J : It} {n : Nat} {G : Hp → Prop} {Y : Nat → Hp → V → Hp → Prop} (w : Walk J n G Y) {body : V → Hp → (Hp → Prop) → Prop} {H0 : Hp} {Qd : Hp → Prop} (Pv : Nat → Hp → Prop) (h0 : Pv 0 H0) (hG : ∀ i H, i ≤ n → Pv i H → G H)
    (hs : ∀ i x H H', i < n → Pv i H → Y i H x H' → body x H' (Pv (i + 1))) (hd : ∀ H, Pv n H → Qd H) :
    ∃ W : Nat → Nat → Hp → Prop, (∃ m, W 0 m H0) ∧ ∀ i m H, W i m H → (J.stop i H ∧ Qd H) ∨ (J.go i H ∧ ∃ Nx : Hp → Prop, (∀ H', Nx H' → ∃ m', m' < m ∧ W (i + 1) m' H') ∧ ∀ x H', J.yld i H x H' → body x H' Nx) := by
  refine ⟨fun i m H => m = n - i ∧ i ≤ n ∧ Pv i H, ⟨n, by simp, Nat.zero_le _, h0⟩, ?_⟩
  rintro i m H ⟨rfl, hi, p⟩
  have q := hG i H hi p
  by_cases hlt : i < n
  · exact .inr ⟨w.goes i H hlt q, Pv (i + 1), fun H' p' => ⟨n - (i + 1), by omega, rfl, hlt, p'⟩, fun x H' y => hs i x H H' hlt p (w.yields i H x H' hlt q y)⟩
  · have e : i = n := by omega
    subst e
    exact .inl ⟨w.stops H q, hd H p⟩
/-! ### names of a text -/
theorem split_last {a b c d : List Nat} (e : a ++ 47 :: b = c ++ 47 :: d) (hb : 47 ∉ b) (hd : 47 ∉ d) : a = c ∧ b = d := by
  have h1 := rfind_slash a b hb
  have h2 := rfind_slash c d hd
  rw [e, h2] at h1
  have hl : a.length = c.length := (Int.ofNat.inj h1).symm
  have h3 := List.append_inj e hl
  exact ⟨h3.1, (List.cons.inj h3.2).2⟩
theorem pc_inj : ∀ {ns ms : List (List Nat)}, (∀ n ∈ ns, OkN n) → (∀ n ∈ ms, OkN n) → pc ns = pc ms → ns = ms := by
  intro ns
  generalize hk : ns.length = k
  induction k generalizing ns with
  | zero =>
    intro ms hn hm e
    have h0 : ns = [] := List.length_eq_zero_iff.mp hk
    subst h0
    by_cases h : ms = []
    · exact h.symm
    · exfalso
      have := (txt_ne hm).mp (by unfold txt; rw [← e]; rfl)
      exact h this
  | succ k ih =>
    intro ms hn hm e
    have h0 : ns ≠ [] := fun q => by rw [q] at hk; cases hk
    by_cases h : ms = []
    · subst h
      exact absurd ((txt_ne hn).mp (by unfold txt; rw [e]; rfl)) h0
    · obtain ⟨r, n, rfl⟩ := snoc_of h0
      obtain ⟨q, m, rfl⟩ := snoc_of h
      rw [pc_snoc, pc_snoc] at e
      obtain ⟨e1, e2⟩ := split_last e (hn n (by simp)).no (hm m (by simp)).no
      have hr : r = q := by
        unfold headC at e1
        by_cases hr0 : r = []
        · by_cases hq0 : q = []
          · rw [hr0, hq0]
          · rw [if_pos hr0, if_neg hq0] at e1
            exact absurd e1.symm (by unfold pc; simp)
        · by_cases hq0 : q = []
          · rw [if_neg hr0, if_pos hq0] at e1
            exact absurd e1 (by unfold pc; simp)
          · rw [if_neg hr0, if_neg hq0] at e1
            refine ih ?_ (fun x hx => hn x (List.mem_append_left _ hx)) (fun x hx => hm x (List.mem_append_left _ hx)) e1
            rw [List.length_append, List.length_singleton] at hk
            omega
      rw [hr, e2]
open Classical in
noncomputable def nsOf (p : Str) : List (List Nat) := if h : ∃ ns, p = txt ns ∧ OkP ns then h.choose else []
theorem nsOf_txt {ns : List (List Nat)} (h : OkP ns) : nsOf (txt ns) = ns := by
  have hx : ∃ ms, txt ns = txt ms ∧ OkP ms := ⟨ns, rfl, h⟩
  unfold nsOf
  rw [dif_pos hx]
  have := hx.choose_spec
  exact (pc_inj h.ok this.2.ok (SX.S_inj this.1)).symm
/-! ### the mirror -/
abbrev Snt := Nat × Nat × Str × Str
def numX (sts : List Stp) (p : Str) : Nat := sts.findIdx fun s => decide (s.2.1 = p)
def sentX (one two : Rws) (sts : List Stp) (ns : List (List Nat)) (c : Str) : Option Snt :=
  match kindX one two (txt ns) c, abv one two c ns.length ns with
  | some low, some m =>
    if low = "old" ∨ low = "new" then
      match kindX one two (txt m) c with
      | some up => if up = "kept" then none else some (if low = "old" then (numX sts (txt m), numX sts (txt ns), c, up ++ "/" ++ low) else (numX sts (txt ns), numX sts (txt m), c, up ++ "/" ++ low))
      | none => none
    else none
  | _, _ => none
noncomputable def sentO (one two : Rws) (sts : List Stp) (p c : Str) : Option Snt := sentX one two sts (nsOf p) c
def SntAt (H : Hp) (v : V) (q : Snt) : Prop := ∃ t, v = .ref t ∧ H t = some (.tup [.int (q.1 : Nat), .int (q.2.1 : Nat), .str q.2.2.1, .str q.2.2.2])
def SentV (H : Hp) (v : V) : Option Snt → Prop
  | none => v = .non
  | some q => SntAt H v q
theorem Same.snt {H H' : Hp} {v : V} {q : Snt} (e : Same H H') (h : SntAt H v q) : SntAt H' v q := let ⟨t, a, b⟩ := h; ⟨t, a, e _ _ b⟩
theorem Same.sentV {H H' : Hp} {v : V} {q : Option Snt} (e : Same H H') (h : SentV H v q) : SentV H' v q := by
  cases q with
  | none => exact h
  | some q => exact Same.snt e h
def FNum (K : PySem.W.Frag) (H : Hp) (x : Addr) (sts : List Stp) : Prop := ∃ n kvs, XF K H x "numbers" (.ref n) ∧ H n = some (.dT kvs) ∧ ∀ p c, (∃ s ∈ sts, s.2.1 = p ∧ c ∈ s.2.2) → valV kvs [.inr p, .inr c] = some (.int (numX sts p : Nat))
theorem Same.fnum {K : PySem.W.Frag} {H H' : Hp} {x : Addr} {sts : List Stp} (e : Same H H') (h : FNum K H x sts) : FNum K H' x sts := let ⟨n, k, a, b, c⟩ := h; ⟨n, k, Same.xf e a, e _ _ b, c⟩
theorem kOf_ne {a b : Option Str} {k : Str} (h : kOf a b = some k) (hk : k ≠ "kept") : a ≠ b := by
  intro e
  subst e
  cases a with
  | none => cases h
  | some x =>
    have h : (if x = x then some ("kept" : Str) else some "turned") = some k := h
    rw [if_pos rfl] at h
    exact hk (Option.some.inj h).symm
theorem in_steps {cols : List Str} {one two : Rws} {p c k : Str} (h : kindX one two p c = some k) (hk : k ≠ "kept") (hc : c ∈ cols) : ∃ s ∈ stepsL cols one two, s.2.1 = p ∧ c ∈ s.2.2 := by
  have hne := kOf_ne h hk
  have hcg : c ∈ chg cols (rowOf one p) (rowOf two p) := List.mem_filter.mpr ⟨hc, decide_eq_true hne⟩
  have hsp : p ∈ spots one two := by
    unfold spots
    rw [mem_usrt, List.mem_append]
    by_cases h1 : p ∈ one.map Prod.fst
    · exact .inl h1
    · by_cases h2 : p ∈ two.map Prod.fst
      · exact .inr h2
      · rw [rowOf_not h1, rowOf_not h2, chg_nil] at hcg
        cases hcg
  refine ⟨(wordOf (rowOf one p) (rowOf two p), p, chg cols (rowOf one p) (rowOf two p)), List.mem_filterMap.mpr ⟨p, hsp, ?_⟩, rfl, hcg⟩
  unfold stepOf stepsAt
  rw [if_neg (fun e => by rw [e] at hcg; cases hcg)]
theorem old_ne_new : ¬ ("old" : Str) = "new" := by decide +kernel
theorem kOf_len {a b : Option Str} {k : Str} (h : kOf a b = some k) : k.length ≤ 6 := by
  have h1 : ("new" : Str).length ≤ 6 := by decide +kernel
  have h2 : ("old" : Str).length ≤ 6 := by decide +kernel
  have h3 : ("kept" : Str).length ≤ 6 := by decide +kernel
  have h4 : ("turned" : Str).length ≤ 6 := by decide +kernel
  cases a with
  | none =>
    cases b with
    | none => cases h
    | some y => cases h; exact h1
  | some x =>
    cases b with
    | none => cases h; exact h2
    | some y =>
      have h : (if x = y then some ("kept" : Str) else some "turned") = some k := h
      by_cases e : x = y
      · rw [if_pos e] at h; cases h; exact h3
      · rw [if_neg e] at h; cases h; exact h4
theorem emp_app (a : Str) : Str.empty ++ a = a := str_ext (by
  show ((#[] : Array Nat) ++ a.cps).toList = _
  simp)
theorem in_old_new (o : Option Str) : inV (optV o) [.str "old", .str "new"] = decide (o = some ("old" : Str) ∨ o = some ("new" : Str)) := by
  cases o with
  | none => rfl
  | some y =>
    have h : inV (optV (some y)) [.str "old", .str "new"] = decide (y ∈ [("old" : Str), "new"]) := inV_str (l := ["old", "new"])
    rw [h]
    by_cases h1 : y = "old"
    · subst h1
      simp
    · by_cases h2 : y = "new"
      · subst h2
        simp
      · rw [decide_eq_false, decide_eq_false]
        · rintro (q | q)
          · exact h1 (Option.some.inj q)
          · exact h2 (Option.some.inj q)
        · intro q
          rcases List.mem_cons.mp q with q | q
          · exact h1 q
          · exact h2 (List.mem_singleton.mp q)
theorem sentX_not {one two : Rws} {sts : List Stp} {ns : List (List Nat)} {c : Str} (h : ¬ (kindX one two (txt ns) c = some ("old" : Str) ∨ kindX one two (txt ns) c = some ("new" : Str))) : sentX one two sts ns c = none := by
  unfold sentX
  cases hk : kindX one two (txt ns) c with
  | none => rfl
  | some low =>
    cases abv one two c ns.length ns with
    | none => rfl
    | some m =>
      dsimp only
      rw [if_neg]
      rintro (q | q)
      · exact h (.inl (by rw [hk, q]))
      · exact h (.inr (by rw [hk, q]))
theorem sentX_top {one two : Rws} {sts : List Stp} {ns : List (List Nat)} {c : Str} (h : abv one two c ns.length ns = none) : sentX one two sts ns c = none := by
  unfold sentX
  rw [h]
  cases kindX one two (txt ns) c <;> rfl
theorem sentX_kept {one two : Rws} {sts : List Stp} {ns m : List (List Nat)} {c : Str} (h : abv one two c ns.length ns = some m) (hm : kindX one two (txt m) c = some ("kept" : Str)) : sentX one two sts ns c = none := by
  unfold sentX
  rw [h]
  cases kindX one two (txt ns) c with
  | none => rfl
  | some low =>
    dsimp only
    rw [hm]
    dsimp only
    rw [if_pos rfl]
    split <;> rfl
theorem sentX_old {one two : Rws} {sts : List Stp} {ns m : List (List Nat)} {c up : Str} (h : abv one two c ns.length ns = some m) (hk : kindX one two (txt ns) c = some ("old" : Str)) (hm : kindX one two (txt m) c = some up) (hu : up ≠ "kept") :
    sentX one two sts ns c = some (numX sts (txt m), numX sts (txt ns), c, up ++ "/" ++ "old") := by
  unfold sentX
  rw [h, hk]
  dsimp only
  rw [hm, if_pos (.inl rfl)]
  dsimp only
  rw [if_neg hu, if_pos rfl]
theorem sentX_new {one two : Rws} {sts : List Stp} {ns m : List (List Nat)} {c up : Str} (h : abv one two c ns.length ns = some m) (hk : kindX one two (txt ns) c = some ("new" : Str)) (hm : kindX one two (txt m) c = some up) (hu : up ≠ "kept") :
    sentX one two sts ns c = some (numX sts (txt ns), numX sts (txt m), c, up ++ "/" ++ "new") := by
  unfold sentX
  rw [h, hk]
  dsimp only
  rw [hm, if_pos (.inr rfl)]
  dsimp only
  rw [if_neg hu, if_neg (fun e => old_ne_new e.symm)]
section
variable {P : Program} {w : World} {K : PySem.W.Frag} {mg : Str → Option Value} {base : Heap}
def sp_sentence_at (K : PySem.W.Frag) : Sp := fun vs H Q _ => ∃ x ns c cols one two, vs = [.ref x, .str (txt ns), .str c] ∧ OkP ns ∧ FAns K H x one two ∧ FNum K H x (stepsL cols one two) ∧ c ∈ cols ∧
  ∀ H' v, Same H H' → SentV H' v (sentX one two (stepsL cols one two) ns c) → Q v H'
theorem sc_Exchange_sentence_at : FnScope ["self", "place", "column", "lower", "upper_place", "upper", "above", "below", "ahead", "behind"] ["self", "place", "column"] (defScope sExchange_sentence_at) := ⟨rfl, rfl, rfl, by decide +kernel, rfl, by decide +kernel, by decide +kernel⟩
theorem ok_Exchange_sentence_at (T : Tx K mg) : C8.Met P w K mg base 4 (ga K "Exchange") "sentence_at" (sp_sentence_at K) [] := by
  refine met_of T.cl_Exchange T.m_Exchange_sentence_at T.f_Exchange_sentence_at sc_Exchange_sentence_at (fun _ _ _ _ _ _ us hl => match us, hl with | [_, _, _], _ => rfl) (fun vs H Q E h => ?_) (fun cdv A outer s H vs Q E hr h => ?_)
  · obtain ⟨x, ns, c, cols, one, two, rfl, _⟩ := h
    rfl
  · obtain ⟨x, ns, c, cols, one, two, rfl, hp, ha, hnum, hc, k⟩ := h
    have nd := sc_Exchange_sentence_at.nd
    have hu := hu_of hr
    refine ⟨_, (pss_cons (ps_set (i := 3) nd rfl (Or.inl rfl) (C8.pe_mt (ok_Exchange_kind_at T) hr (by decide) (pv 0) (pa_cons (pv 1) (pa_cons (pv 2) pa_nil))))
      (pss_cons (ps_set (i := 4) nd rfl (Or.inl rfl) (C8.pe_mt (ok_Exchange_place_above T) hr (by decide) (pv 0) (pa_cons (pv 1) (pa_cons (pv 2) pa_nil))))
      (pss_cons (ps_if (PW.pt (pw_or (pt_cmpR op_notIn_seq (pv 3) (pe_tup (pa_cons (C8.pe_gc rfl T.v_OLD) (pa_cons (C8.pe_gc rfl T.v_NEW) pa_nil))) (by rfl)) (pw_or1 (pt_cmpR op_isN (pv 4) pe_non (nomark _))))) (pss_one (ps_ret pe_non)) pss_nil)
      (pss_cons (ps_set (i := 5) nd rfl (Or.inl rfl) (C8.pe_mt (ok_Exchange_kind_at T) hr (by decide) (pv 0) (pa_cons (pv 4) (pa_cons (pv 2) pa_nil))))
      (pss_cons (ps_if (pt_cmpR op_eq (pv 5) (C8.pe_gc rfl T.v_KEPT) (nomark _)) (pss_one (ps_ret pe_non)) pss_nil)
      (C8.pss_cut (ps_par (i := 6) (j := 7) rfl nd rfl rfl (by decide) rfl rfl (pa_cons (pe_dget hu (pe_fld (pv 0) rfl) (pe_tup (pa_cons (pv 4) (pa_cons (pv 2) pa_nil))) (fun _ _ => rfl)) (pa_cons (pe_dget hu (pe_fld (pv 0) rfl) (pe_tup (pa_cons (pv 1) (pa_cons (pv 2) pa_nil))) (fun _ _ => rfl)) pa_nil)) (by rfl))
      (C8.pss_cut (ps_asg (pe_ifExp (pt_cmpR op_eq (pv 3) (C8.pe_gc rfl T.v_OLD) (nomark _)) (pe_tup (pa_cons (pv 6) (pa_cons (pv 7) pa_nil))) (pe_tup (pa_cons (pv 7) (pa_cons (pv 6) pa_nil)))) (pg_tup (by rfl) (pgs_cons (pg_name (i := 8) nd rfl (Or.inl rfl)) (pgs_cons (pg_name (i := 9) nd rfl (Or.inl rfl)) pgs_nil))))
      (pss_one (ps_ret (pe_tup (pa_cons (pv 8) (pa_cons (pv 9) (pa_cons (pv 2) (pa_cons (pe_joined (PJ.cons (pe_fmt (pv 5)) (PJ.cons pe_str (PJ.cons (pe_fmt (pv 3)) PJ.nil)))) pa_nil)))))))))))))), ?_⟩
    walk_at "nf"
    have ha' := ha
    obtain ⟨a, d1, d2, g1, _⟩ := ha'
    refine ⟨_, rfl, g1.meth (by decide +kernel) ⟨_, rfl, _, rfl, x, txt ns, c, one, two, rfl, ha, fun H1 e1 => ?_⟩⟩
    have g2 := Same.xf e1 g1
    refine ⟨_, rfl, g2.meth (by decide +kernel) ⟨_, rfl, _, rfl, x, ns, c, one, two, rfl, hp, Same.fans e1 ha, fun H2 e2 => ?_⟩⟩
    have e02 := e1.trans e2
    refine ⟨_, rfl, (by show 2 ≤ sizeLine; decide), fun t ht => ?_⟩
    have e3 := e02.new (o := .tup [.str "old", .str "new"]) ht
    refine ⟨t, [.str "old", .str "new"], rfl, .inr (SqT.of upd_same), ?_, rfl, ?_⟩
    · cases kindX one two (txt ns) c <;> rfl
    rw [if_pos rfl, in_old_new]
    refine ⟨_, rfl, ?_⟩
    by_cases hk : kindX one two (txt ns) c = some ("old" : Str) ∨ kindX one two (txt ns) c = some ("new" : Str)
    · rw [decide_eq_true hk]
      refine iteF ⟨_, rfl, rfl, ?_⟩
      cases hab : abv one two c ns.length ns with
      | none =>
        refine ⟨_, rfl, iteT ?_⟩
        refine k _ .non e3 ?_
        rw [sentX_top hab]
        rfl
      | some m =>
        obtain ⟨hm, hms⟩ := abv_ok hp hab
        refine ⟨_, rfl, iteF ⟨_, rfl, (Same.xf e3 g1).meth (by decide +kernel) ⟨_, rfl, _, rfl, x, txt m, c, one, two, rfl, Same.fans e3 ha, fun H4 e4 => ?_⟩⟩⟩
        obtain ⟨up, hup⟩ := Option.isSome_iff_exists.mp hms
        rw [hup]
        refine ⟨_, rfl, rfl, _, rfl, ?_⟩
        by_cases hu : up = "kept"
        · subst hu
          rw [decide_eq_true (show optV (some ("kept" : Str)) = V.str "kept" from rfl)]
          refine iteT (k _ .non (e3.trans e4) ?_)
          rw [sentX_kept hab hup]
          rfl
        · rw [decide_eq_false (show ¬ optV (some up) = V.str "kept" from fun e => hu (V.str.inj e))]
          refine iteF ?_
          obtain ⟨low, hlow, hlk⟩ : ∃ low, kindX one two (txt ns) c = some low ∧ (low = "old" ∨ low = "new") := by
            rcases hk with h | h
            · exact ⟨_, h, .inl rfl⟩
            · exact ⟨_, h, .inr rfl⟩
          have hlk2 : low ≠ "kept" := by
            rcases hlk with rfl | rfl
            · decide +kernel
            · decide +kernel
          have e04 := e3.trans e4
          obtain ⟨nn, kvs, n1, n2, n3⟩ := Same.fnum e04 hnum
          have v1 := n3 (txt m) c (in_steps hup hu hc)
          have v2 := n3 (txt ns) c (in_steps hlow hlk2 hc)
          rw [hlow]
          have num : ∀ {H5 : Hp}, Same H H5 → ∀ q, (∃ s ∈ stepsL cols one two, s.2.1 = txt q ∧ c ∈ s.2.2) → ∀ t5, H5 t5 = none → ∀ F : V → Hp → Prop, F (.int (numX (stepsL cols one two) (txt q) : Nat)) (upd H5 t5 (.tup [.str (txt q), .str c])) →
              ∃ a v, (∃ nn, XF K (upd H5 t5 (.tup [.str (txt q), .str c])) x "numbers" (.ref nn) ∧ V.ref nn = .ref a) ∧ DGet (upd H5 t5 (.tup [.str (txt q), .str c])) a (.ref t5) (some v) ∧ F v (upd H5 t5 (.tup [.str (txt q), .str c])) := fun {H5} e5 q hq t5 ht5 F f => by
            obtain ⟨nn, kvs, n1, n2, n3⟩ := Same.fnum (e5.new (o := .tup [.str (txt q), .str c]) ht5) hnum
            refine ⟨nn, _, ⟨nn, n1, rfl⟩, ?_, f⟩
            rw [← n3 (txt q) c hq]
            exact DGet.t n2 upd_same
          refine ⟨fun σ H5 => σ = [some (.ref x), some (.str (txt ns)), some (.str c), some (.str low), some (.str (txt m)), some (.str up), some (.int (numX (stepsL cols one two) (txt m) : Nat)), some (.int (numX (stepsL cols one two) (txt ns) : Nat)), none, none] ∧ Same H H5, ?_, ?_⟩
          · obtain ⟨nn, kvs, n1, n2, n3⟩ := Same.fnum e04 hnum
            refine ⟨_, rfl, n1.fld T.cl_Exchange T.n_Exchange_numbers ⟨_, rfl, _, rfl, (by show 2 ≤ sizeLine; decide), fun t5 ht5 => ?_⟩⟩
            have e5 := e04.new (o := .tup [.str (txt m), .str c]) ht5
            refine ⟨nn, .int (numX (stepsL cols one two) (txt m) : Nat), rfl, ?_, ?_⟩
            · rw [← n3 (txt m) c (in_steps hup hu hc)]
              exact DGet.t ((upd_ne (ne_of_none n2 ht5)).trans n2) upd_same
            obtain ⟨nn, kvs, n1, n2, n3⟩ := Same.fnum e5 hnum
            refine ⟨_, rfl, n1.fld T.cl_Exchange T.n_Exchange_numbers ⟨_, rfl, _, rfl, (by show 2 ≤ sizeLine; decide), fun t6 ht6 => ?_⟩⟩
            refine ⟨nn, .int (numX (stepsL cols one two) (txt ns) : Nat), rfl, ?_, ?_⟩
            · rw [← n3 (txt ns) c (in_steps hlow hlk2 hc)]
              exact DGet.t ((upd_ne (ne_of_none n2 ht6)).trans n2) upd_same
            exact ⟨_, _, rfl, rfl, e5.new ht6⟩
          · rintro σ H5 ⟨rfl, e5⟩
            have l1 : low.length ≤ 6 := kOf_len hlow
            have l2 : up.length ≤ 6 := kOf_len hup
            have fin : ∀ (A B : Nat) (H6 : Hp), Same H H6 → sentX one two (stepsL cols one two) ns c = some (A, B, c, up ++ "/" ++ low) →
                tJs [tFmt (tVar 5), tC (.str "/"), tFmt (tVar 3)] Str.empty [some (.ref x), some (.str (txt ns)), some (.str c), some (.str low), some (.str (txt m)), some (.str up), some (.int (numX (stepsL cols one two) (txt m) : Nat)), some (.int (numX (stepsL cols one two) (txt ns) : Nat)), some (.int (A : Nat)), some (.int (B : Nat))] H6
                  fun out H7 => [V.int (A : Nat), .int (B : Nat), .str c, .str out].length ≤ sizeLine ∧ ∀ p, H7 p = none → Q (.ref p) (upd H7 p (.tup [V.int (A : Nat), .int (B : Nat), .str c, .str out])) := fun A B H6 e6 hs => by
              have hl2 : (up ++ ("/" : Str)).length ≤ 7 := by
                have h1 := Str.length_append up ("/" : Str)
                have : ("/" : Str).length = 1 := by decide +kernel
                omega
              have hl3 : (up ++ ("/" : Str) ++ low).length ≤ 13 := by
                have h1 := Str.length_append (up ++ ("/" : Str)) low
                omega
              refine ⟨_, rfl, .inl ⟨up, rfl, le_size (by omega), _, rfl, le_size (by rw [emp_app]; omega), ?_⟩⟩
              rw [emp_app]
              refine ⟨_, rfl, le_size (by omega), _, rfl, .inl ⟨low, rfl, le_size (by omega), _, rfl, le_size (by omega), (by show 4 ≤ sizeLine; decide), fun p hp => ?_⟩⟩
              refine k _ (.ref p) (e6.new hp) ?_
              rw [hs]
              exact ⟨p, rfl, upd_same⟩
            refine ⟨fun σ H6 => ∃ A B : Nat, σ = [some (.ref x), some (.str (txt ns)), some (.str c), some (.str low), some (.str (txt m)), some (.str up), some (.int (numX (stepsL cols one two) (txt m) : Nat)), some (.int (numX (stepsL cols one two) (txt ns) : Nat)), some (.int (A : Nat)), some (.int (B : Nat))] ∧ Same H H6 ∧
              sentX one two (stepsL cols one two) ns c = some (A, B, c, up ++ "/" ++ low), ?_, ?_⟩
            · refine ⟨_, rfl, rfl, _, rfl, ?_⟩
              rcases hlk with rfl | rfl
              · rw [decide_eq_true (show V.str ("old" : Str) = V.str "old" from rfl)]
                refine iteT ⟨_, rfl, _, rfl, (by show 2 ≤ sizeLine; decide), fun p hp => ⟨p, _, rfl, SqT.of upd_same, rfl, _, _, rfl, _, _, rfl, rfl, _, _, rfl, e5.new hp, sentX_old hab hlow hup hu⟩⟩
              · rw [decide_eq_false (show ¬ V.str ("new" : Str) = V.str "old" from fun e => old_ne_new (V.str.inj e).symm)]
                refine iteF ⟨_, rfl, _, rfl, (by show 2 ≤ sizeLine; decide), fun p hp => ⟨p, _, rfl, SqT.of upd_same, rfl, _, _, rfl, _, _, rfl, rfl, _, _, rfl, e5.new hp, sentX_new hab hlow hup hu⟩⟩
            · rintro σ H6 ⟨A, B, rfl, e6, hs⟩
              exact ⟨_, rfl, _, rfl, _, rfl, fin A B H6 e6 hs⟩
    · rw [decide_eq_false hk]
      refine iteT (iteT (k _ .non e3 ?_))
      rw [sentX_not hk]
      rfl
end
end NS
set_option Elab.async false
set_option linter.all false
set_option maxRecDepth 100000
set_option maxHeartbeats 4000000
/-! Exchanges: all sentences. -/
namespace NS
open PySem PySem.Spec PyProof.Rows L2 He
local macro_rules | `(tactic| walk_at "nf") => `(tactic| dsimp only [L2.tNext, L2.tSeq, L2.tDrop, L2.tRet, L2.tRetN, L2.tIfS, L2.tAsg, L2.gName, L2.gCons, L2.gNil, L2.gTup, L2.tOp, L2.tUn, L2.tTest, L2.tChain, L2.tB, L2.tAnd, L2.tOr, L2.tNot, L2.tAndV, L2.tOrV, L2.tNotV, L2.tIf, L2.tCB, L2.tNil, L2.tCons, L2.tTup, L2.tLst, L2.tFld, L2.sFld, L2.tCall, L2.tMeth, L2.tMake, L2.tBM, L2.tBM0, L2.tM1, L2.tM0, L2.tSl, L2.tPart, L2.tNoPart, L2.tPar, L2.tVar, L2.tC, L2.cxOf, L2.tYes, C8.tCut])
theorem paired_snoc {α β : Type} {R : α → β → Prop} {xs : List α} {ys : List β} {a : α} {b : β} (h : Paired R xs ys) (r : R a b) : Paired R (xs ++ [a]) (ys ++ [b]) := by
  induction h with
  | nil => exact .cons r .nil
  | cons h _ ih => exact .cons h ih
theorem paired_imp {α β : Type} {R S : α → β → Prop} {xs : List α} {ys : List β} (f : ∀ a b, R a b → S a b) (h : Paired R xs ys) : Paired S xs ys := by
  induction h with
  | nil => exact .nil
  | cons h _ ih => exact .cons (f _ _ h) ih
theorem paired_get {α β : Type} {R : α → β → Prop} {xs : List α} {ys : List β} (h : Paired R xs ys) : ∀ {i : Nat} {a : α}, xs[i]? = some a → ∃ b, ys[i]? = some b ∧ R a b := by
  induction h with
  | nil => intro i a h; simp at h
  | cons h _ ih =>
    intro i a hi
    cases i with
    | zero =>
      obtain rfl := Option.some.inj hi
      exact ⟨_, rfl, h⟩
    | succ i => exact ih hi
noncomputable def sentsF (cols : List Str) (one two : Rws) : List (Option Snt) := (spots one two).flatMap fun p => cols.map (sentO one two (stepsL cols one two) p)
noncomputable def sentsL (cols : List Str) (one two : Rws) : List Snt := (sentsF cols one two).filterMap id
theorem snt_put {H : Hp} {D : Addr} {acc : List V} {o : HO} {v : V} {q : Snt} (hD : H D = some (.lst acc)) (h : SntAt H v q) : SntAt (upd H D o) v q := by
  obtain ⟨t, e, ht⟩ := h
  exact ⟨t, e, (upd_ne (fun z => by rw [z, hD] at ht; cases ht)).trans ht⟩
theorem sentV_put {H : Hp} {D : Addr} {acc : List V} {o : HO} {v : V} {q : Option Snt} (hD : H D = some (.lst acc)) (h : SentV H v q) : SentV (upd H D o) v q := by
  cases q with
  | none => exact h
  | some q => exact snt_put hD h
theorem flat_len {α β : Type} {f : α → List β} {k : Nat} : ∀ {l : List α}, (∀ x ∈ l, (f x).length ≤ k) → (l.flatMap f).length ≤ l.length * k
  | [], _ => by simp
  | x :: l, h => by
    have h1 := h x (by simp)
    have h2 := flat_len (l := l) fun y hy => h y (List.mem_cons_of_mem _ hy)
    rw [List.flatMap_cons, List.length_append, List.length_cons, Nat.add_mul]
    omega
section
variable {P : Program} {w : World} {K : PySem.W.Frag} {mg : Str → Option Value} {base : Heap}
def sp_sentences_told (K : PySem.W.Frag) : Sp := fun vs H Q _ => ∃ x cols one two, vs = [.ref x] ∧ FSpots K H x (spots one two) ∧ FCols K H x cols ∧ FAns K H x one two ∧ FNum K H x (stepsL cols one two) ∧ OkCols cols ∧ (spots one two).length ≤ 40 ∧ (∀ p ∈ spots one two, PlaceS p) ∧
  ∀ H' l vs', Same H H' → H l = none → H' l = some (.lst vs') → Paired (SntAt H') vs' (sentsL cols one two) → Q (.ref l) H'
theorem sc_Exchange_sentences_told : FnScope ["self", "found", "place", "column", "sentence"] ["self"] (defScope sExchange_sentences_told) := ⟨rfl, rfl, rfl, by decide +kernel, rfl, by decide +kernel, by decide +kernel⟩
theorem ok_Exchange_sentences_told (T : Tx K mg) : C8.Met P w K mg base 5 (ga K "Exchange") "sentences_told" (sp_sentences_told K) [] := by
  refine met_of T.cl_Exchange T.m_Exchange_sentences_told T.f_Exchange_sentences_told sc_Exchange_sentences_told (fun _ _ _ _ _ _ us hl => match us, hl with | [_], _ => rfl) (fun vs H Q E h => ?_) (fun cdv A outer s H vs Q E hr h => ?_)
  · obtain ⟨x, cols, one, two, rfl, _⟩ := h
    rfl
  · obtain ⟨x, cols, one, two, rfl, ⟨sc, s1, s2⟩, ⟨cc, c1, c2⟩, ha, hn, hc, hl, hp, k⟩ := h
    have nd := sc_Exchange_sentences_told.nd
    refine ⟨_, (pss_cons (ps_setLc2 (i := 1) (own := [("place", 2), ("column", 3)]) (vs1 := [3]) rfl nd rfl rfl (sw_true rfl rfl rfl (by kernel_rfl)) (pi_tup (pe_fld (pv 0) rfl)) (blkOk_by (by kernel_rfl)) (by decide) (fun _ _ _ _ _ => (pg_name (i := 2) nd rfl (Or.inl rfl))) (fun _ _ _ _ _ => pts_nil) (fun _ _ _ _ _ => (show PI _ _ _ (iTup K _) from pi_tup (show PE _ _ (tFld K (tVar 0) "columns") from pe_fld (pv 0) rfl))) (fun _ _ _ _ _ => (pg_name (i := 3) nd rfl (Or.inl rfl))) (fun _ _ _ _ _ => pts_nil) (fun _ _ _ _ _ => (C8.pe_mt (ok_Exchange_sentence_at T) hr (by decide) (pv 0) (pa_cons (pv 2) (pa_cons (pv 3) pa_nil)))))
      (pss_one (ps_ret (pe_lc (own := [("sentence", 4)]) rfl nd (pi_list (pv 1)) (blkOk_by (by kernel_rfl)) (fun _ _ _ _ _ => (pg_name (i := 4) nd rfl (Or.inl rfl))) (fun _ _ _ _ _ => (pts_one (pt_cmpR op_notN (pv 4) pe_non (nomark _)))) (fun _ _ _ _ _ => (pv 4)))))), ?_⟩
    walk_at "nf"
    unfold L2.tLc2
    refine ⟨_, rfl, s1.fld T.cl_Exchange T.n_Exchange_spots ⟨sc, rfl, ⟨_, s2⟩, fun D hD => ?_⟩⟩
    let so := sentO one two (stepsL cols one two)
    let F : Nat → List (Option Snt) := fun i => ((spots one two).take i).flatMap fun p => cols.map (so p)
    refine any_it (walk_tup (xs := (spots one two).map V.str)) (fun i H' => ∃ acc, H' D = some (.lst acc) ∧ Same H H' ∧ Paired (SentV H') acc (F i)) ⟨[], upd_same, (Same.refl _).new hD, .nil⟩ (fun i H' _ ⟨_, _, e, _⟩ => Same.tup e s2) ?_ ?_
    · rintro i v H0 H1 hi ⟨acc, hDD, e, hpr⟩ ⟨rfl, hv⟩
      obtain ⟨p, hpi, rfl⟩ := get_map_str hv
      obtain ⟨ns, rfl, hok⟩ := hp p (List.mem_of_getElem? hpi)
      refine ⟨rfl, ?_⟩
      dsimp only [L2.tYes]
      rw [if_pos rfl]
      refine ⟨_, rfl, (Same.xf e c1).fld T.cl_Exchange T.n_Exchange_columns ⟨cc, rfl, ⟨_, Same.tup e c2⟩, ?_⟩⟩
      refine any_it (walk_tup (xs := cols.map V.str)) (fun j H' => ∃ acc, H' D = some (.lst acc) ∧ Same H H' ∧ Paired (SentV H') acc (F i ++ (cols.take j).map (so (txt ns)))) ⟨acc, hDD, e, by rw [List.take_zero, List.map_nil, List.append_nil]; exact hpr⟩ (fun j H' _ ⟨_, _, e, _⟩ => Same.tup e c2) ?_ ?_
      · rintro j u H2 H3 hj ⟨acc2, hDD2, e2, hpr2⟩ ⟨rfl, hu⟩
        obtain ⟨c, hcj, rfl⟩ := get_map_str hu
        walk_at "nf"
        obtain ⟨aa, d1, d2, g1, _⟩ := Same.fans e2 ha
        refine ⟨rfl, iteT ⟨_, rfl, g1.meth (by decide +kernel) ⟨_, rfl, _, rfl, x, ns, c, cols, one, two, rfl, hok, Same.fans e2 ha, Same.fnum e2 hn, List.mem_of_getElem? hcj, fun H4 y e4 hy => ?_⟩⟩⟩
        have hD4 := e4 _ _ hDD2
        have hy' : SentV H4 y (so (txt ns) c) := by
          show SentV H4 y (sentX one two (stepsL cols one two) (nsOf (txt ns)) c)
          rw [nsOf_txt hok]
          exact hy
        refine ⟨acc2, hD4, ?_, _, upd_same, (e2.trans e4).mut hD, ?_⟩
        · have h1 := hpr2.length
          rw [List.length_append, List.length_map] at h1
          have h2 : (F i).length ≤ ((spots one two).take i).length * 3 := flat_len fun q _ => by rw [List.length_map]; exact hc.le
          have h3 : (cols.take j).length ≤ cols.length := by rw [List.length_take]; exact Nat.min_le_right _ _
          have h4 : ((spots one two).take i).length ≤ (spots one two).length := by rw [List.length_take]; exact Nat.min_le_right _ _
          have := hc.le
          exact lt_size (by omega)
        · rw [take_snoc hcj, List.map_append, ← List.append_assoc]
          exact paired_snoc (paired_imp (fun a b h => sentV_put hD4 (Same.sentV e4 h)) hpr2) (sentV_put hD4 hy')
      · rintro H2 ⟨acc2, hDD2, e2, hpr2⟩
        rw [List.length_map, List.take_of_length_le (Nat.le_refl _)] at hpr2
        refine ⟨acc2, hDD2, e2, ?_⟩
        have : F (i + 1) = F i ++ cols.map (so (txt ns)) := by
          show ((spots one two).take (i + 1)).flatMap _ = _
          rw [take_snoc hpi, List.flatMap_append]
          simp
          rfl
        rw [this]
        exact hpr2
    · rintro H1 ⟨acc, hDD, e, hpr⟩
      have eF : F ((spots one two).map V.str).length = sentsF cols one two := by
        show ((spots one two).take _).flatMap _ = _
        rw [List.take_of_length_le (by rw [List.length_map]; exact Nat.le_refl _)]
        rfl
      rw [eF] at hpr
      have hla : acc.length ≤ 120 := by
        rw [hpr.length]
        have h2 : (sentsF cols one two).length ≤ (spots one two).length * 3 := flat_len fun q _ => by rw [List.length_map]; exact hc.le
        omega
      refine ⟨_, rfl, D, rfl, ⟨_, SqL.of hDD⟩, fun D2 hD2 => lc_go (walk_list (xs := acc)) hD2 (fun i acc2 H' => Paired (SntAt H') acc2 (((sentsF cols one two).take i).filterMap id)) (fun H2 e2 => SqL.of (e2 _ _ hDD)) .nil ?_ ?_⟩
      · rintro i v H2 H3 acc2 hi e2 hDD2 hl2 hpr2 ⟨rfl, hv⟩
        obtain ⟨o, ho, hvo⟩ := paired_get hpr hv
        walk_at "nf"
        cases o with
        | none =>
          obtain rfl : v = .non := hvo
          refine ⟨rfl, _, rfl, rfl, _, rfl, iteF ⟨acc2, hDD2, e2, by omega, ?_⟩⟩
          show Paired (SntAt H3) acc2 (((sentsF cols one two).take (i + 1)).filterMap id)
          rw [take_snoc ho, List.filterMap_append]
          simpa using hpr2
        | some q =>
          obtain ⟨t, rfl, ht⟩ : SntAt H1 v q := hvo
          refine ⟨rfl, _, rfl, rfl, _, rfl, iteT ⟨_, rfl, lc_put hD2 hDD2 e2 hl2 (by omega) (fun h => paired_imp (fun a b h => snt_put hDD2 h) h) ?_⟩⟩
          show Paired (SntAt H3) (acc2 ++ [.ref t]) (((sentsF cols one two).take (i + 1)).filterMap id)
          rw [take_snoc ho, List.filterMap_append]
          exact paired_snoc hpr2 ⟨t, rfl, e2 _ _ ht⟩
      · intro H2 acc2 e2 hDD2 hpr2
        have : (sentsF cols one two).take acc.length = sentsF cols one two := List.take_of_length_le (by rw [hpr.length]; exact Nat.le_refl _)
        rw [this] at hpr2
        exact k _ D2 acc2 (e.trans e2) (e.free hD2) hDD2 hpr2
end
end NS
set_option Elab.async false
set_option linter.all false
set_option maxRecDepth 100000
set_option maxHeartbeats 4000000
/-! A generator's body, its consumer of any kind: what the consumer may change is read from the heap at each wake. -/
namespace NS
open PySem PySem.Spec PyProof.Rows L2 He GenW
/-- the consumer's own addresses, as read from a heap; they hang on their own objects alone -/
structure Own where
  f : Heap → List Addr
  st : ∀ h h', (∀ b ∈ f h, h'.get? b = h.get? b) → f h' = f h
/-- while the generator sleeps -/
structure Idle (Z : Own) (s s' : Shared) : Prop where
  os : s'.os = s.os
  bare : AllBare s'.gens
  keep : ∀ b o, b ∉ Z.f s.heap → s.heap.get? b = some o → s'.heap.get? b = some o
  own : ∀ b ∈ Z.f s'.heap, (b ∈ Z.f s.heap ∨ s.heap.objs.size ≤ b) ∧ ∃ o, s'.heap.get? b = some o ∧ ∀ v, o.data ≠ .cell v
/-- running since the wake s₀; ip: its own iterators -/
structure GI (X : Cx) (Z : Own) (s₀ : Shared) (ip : List (Addr × Obj)) (σ : L2.St) (H : Hp) (s : Shared) : Prop where
  inv : Inv X (pinsAt (Z.f s₀.heap) s₀.heap ++ ip) σ H s
  obj : ∀ b ∈ Z.f s₀.heap, ∃ o, s₀.heap.get? b = some o ∧ ∀ v, o.data ≠ .cell v
  old : ∀ b ∈ Z.f s₀.heap, X.s_0.heap.objs.size ≤ b
  cel : ∀ b ∈ Z.f s₀.heap, ∀ x c, X.env.cells.lookup x = some c → c ≠ b
  ipn : ∀ b ∈ Z.f s₀.heap, ∀ q ∈ X.pn ++ ip, q.1 ≠ b
section
variable {X : Cx} {Z : Own} {s₀ s s' : Shared} {ip : List (Addr × Obj)} {σ : L2.St} {H : Hp}
theorem GI.pinZ (G : GI X Z s₀ ip σ H s) {b : Addr} (hb : b ∈ Z.f s₀.heap) : s.heap.get? b = s₀.heap.get? b ∧ H b = none ∧ b ≠ X.env.locals ∧ b ∉ X.fs := by
  obtain ⟨o, ho, hd⟩ := G.obj b hb
  obtain ⟨h1, h2, h3, h4, _⟩ := G.inv.pin (b, o) (List.mem_append_right _ (List.mem_append_left _ (mem_pinsAt hb ho)))
  exact ⟨h1.trans ho.symm, h2, h3, h4⟩
theorem GI.same (G : GI X Z s₀ ip σ H s) : Z.f s.heap = Z.f s₀.heap := Z.st _ _ fun b hb => (G.pinZ hb).1
/-- woken again -/
theorem GI.woken (G : GI X Z s₀ ip σ H s) (z : Idle Z s s') : GI X Z s' ip σ H s' := by
  have hsame := G.same
  have I0 : Inv X ip σ H s := G.inv.pins_of fun p hp => G.inv.pin p (List.mem_append_right _ (List.mem_append_right _ hp))
  have hI : Inv X ip σ H s' := by
    obtain ⟨z1, z2, z3, z4⟩ := z
    obtain ⟨hh, g, d, t, o⟩ := s'
    have ho : o = s.os := z1
    subst ho
    rw [hsame] at z3
    refine I0.step (g' := g) (t' := t) (d' := d) (ch := Z.f s₀.heap) (fun b hb => ⟨.inr (G.old b hb), (G.pinZ hb).2.2.1, G.cel b hb, G.ipn b hb⟩)
      (fun b ob _ _ hc q _ => z3 b ob hc q) (fun b ob _ _ hc q _ => ⟨ob.slots, z3 b ob hc q⟩) (fun _ _ _ _ n => n) (fun b ob hc q => ⟨ob, z3 b ob hc q⟩)
      (fun _ _ q => q) (fun _ _ _ q => q) (fun b ps q => ⟨#[], by rw [q]; simp⟩) (fun m hm => ?_) (fun b u q => ?_) z2
    · obtain ⟨ob, es, ep, ho, r⟩ := hm
      exact ⟨ob, es, ep, z3 _ ob (fun hb => (G.pinZ hb).2.2.1 rfl) ho, r⟩
    · refine (I0.hok b u q).stay (fun c v hc y => z3 c v (fun hz => ?_) y) (fun _ y => y) fun _ _ y => y
      have hn := (G.pinZ hz).2.1
      rcases hc with y | y
      · rw [y, q] at hn; cases hn
      · rw [y] at hn; cases hn
  have own := z.own
  rw [hsame] at own
  have apart : ∀ b ∈ Z.f s'.heap, H b = none ∧ b ≠ X.env.locals ∧ b ∉ X.fs ∧ X.s_0.heap.objs.size ≤ b ∧ (∀ x c, X.env.cells.lookup x = some c → c ≠ b) ∧ ∀ q ∈ X.pn ++ ip, q.1 ≠ b := fun b hb => by
    rcases (own b hb).1 with h | h
    · obtain ⟨_, h2, h3, h4⟩ := G.pinZ h
      exact ⟨h2, h3, h4, G.old b h, G.cel b h, G.ipn b h⟩
    · refine ⟨I0.hok.fresh h, Nat.ne_of_gt (Nat.lt_of_lt_of_le I0.lt h), I0.nofs h, Nat.le_trans I0.sz h, fun x c e => ?_, fun q hq => ?_⟩
      · obtain ⟨v, o, ho, _⟩ := I0.cell x c e
        exact Nat.ne_of_lt (Nat.lt_of_lt_of_le (Heap.lt_size ho) h)
      · exact Nat.ne_of_lt (Nat.lt_of_lt_of_le (Heap.lt_size (I0.pin q hq).1) h)
  refine ⟨hI.pins_of fun p hp => ?_, fun b hb => (own b hb).2, fun b hb => (apart b hb).2.2.2.1, fun b hb => (apart b hb).2.2.2.2.1, fun b hb => (apart b hb).2.2.2.2.2⟩
  rcases List.mem_append.mp hp with h | h
  · obtain ⟨hb, e⟩ := of_pinsAt h
    obtain ⟨a1, a2, a3, _⟩ := apart p.1 hb
    obtain ⟨o, ho, hd⟩ := (own p.1 hb).2
    rw [e] at ho
    cases ho
    exact ⟨e, a1, a2, a3, hd⟩
  · exact hI.pin p (List.mem_append_right _ h)
end
/-! ### the protocol; N: the most that is handed out; YR: what is known of an item behind those that are out -/
def GY (X : Cx) (Z : Own) (N : Nat) (YR : List V → V → Hp → Prop) : Protocol := fun n s₀ v s kap =>
  ∃ (ys : List V) (x : V) (ip : List (Addr × Obj)) (σ : L2.St) (H : Hp), n + 1 + ys.length = N ∧ RelV x v ∧ YR ys x H ∧ GI X Z s₀ ip σ H s ∧ ∀ s', Idle Z s s' → kap (.send .none) s'
def GR (X : Cx) (Z : Own) (N : Nat) (Q : List V → VK) (F : Value → Shared → Prop) : GenEnd := fun n s₀ r s => match r with
  | .ok (.ret u) => ∃ (ys : List V) (v : V) (ip : List (Addr × Obj)) (σ : L2.St) (H : Hp), n + ys.length = N ∧ GI X Z s₀ ip σ H s ∧ RelV v u ∧ Q ys v H
  | .ok _ => False
  | .error e => F e s
structure GE where
  nx : List V → L2.St → Hp → Prop
  rt : List V → VK
  bk : List V → L2.St → Hp → Prop := fun _ _ _ => False
  ct : List V → L2.St → Hp → Prop := fun _ _ _ => False
abbrev TGB := GE → List V → L2.St → Hp → Prop
def GSP (X : Cx) (Z : Own) (s₀ : Shared) (ip : List (Addr × Obj)) (D : GE) (ys : List V) (f : Flow) (s : Shared) : Prop :=
  match f with
  | .next => ∃ σ H, GI X Z s₀ ip σ H s ∧ D.nx ys σ H
  | .brk => ∃ σ H, GI X Z s₀ ip σ H s ∧ D.bk ys σ H
  | .cont => ∃ σ H, GI X Z s₀ ip σ H s ∧ D.ct ys σ H
  | .ret u => ∃ v σ H, GI X Z s₀ ip σ H s ∧ RelV v u ∧ D.rt ys v H
/-- where the code stands -/
structure GC (X : Cx) (A : Around) (c : Code) (fs : List Frame) (gd : Bool → Bool) : Prop where
  over : A.over c fs = X.A
  split : splitAtGen fs = none
  guard : fs.any Frame.guarded = false
  gd : gd false = false
/-- what follows -/
structure GK (X : Cx) (Z : Own) (N : Nat) (YR : List V → V → Hp → Prop) (ip : List (Addr × Obj)) (A : Around) (R : GenEnd) (c : Code) (fs : List Frame) (K : Flow → Sem PySem.Fin) (J : Value → Sem PySem.Fin) (D : GE) : Prop where
  ok : ∀ (n : Nat) (ys : List V) (s₀ s : Shared) (f : Flow), n + ys.length = N → GSP X Z s₀ ip D ys f s → Seg (model X.prog X.w) A R (GY X Z N YR) n s₀ c (K f) fs s
  exc : ∀ (n : Nat) (s₀ : Shared) (e : Value) (s : Shared), X.xe e s → Seg (model X.prog X.w) A R (GY X Z N YR) n s₀ c (J e) fs s
structure GS (X : Cx) (Z : Own) (N : Nat) (YR : List V → V → Hp → Prop) (st : Stmt) (t : TGB) : Prop where
  run : ∀ (A : Around) (ip : List (Addr × Obj)) (R : GenEnd) (n : Nat) (ys : List V) (s₀ : Shared) (c : Code) (fs : List Frame) (K : Flow → Sem PySem.Fin) (J : Value → Sem PySem.Fin) (gd : Bool → Bool) (lv : List Value → List Value) (s : Shared) (σ : L2.St) (H : Hp) (D : GE),
    GC X A c fs gd → n + ys.length = N → GK X Z N YR ip A R c fs K J D → GI X Z s₀ ip σ H s → t D ys σ H →
    Seg (model X.prog X.w) A R (GY X Z N YR) n s₀ c ((exec st X.env).wrap K J gd lv) fs s
structure GSs (X : Cx) (Z : Own) (N : Nat) (YR : List V → V → Hp → Prop) (st : List Stmt) (t : TGB) : Prop where
  run : ∀ (A : Around) (ip : List (Addr × Obj)) (R : GenEnd) (n : Nat) (ys : List V) (s₀ : Shared) (c : Code) (fs : List Frame) (K : Flow → Sem PySem.Fin) (J : Value → Sem PySem.Fin) (gd : Bool → Bool) (lv : List Value → List Value) (s : Shared) (σ : L2.St) (H : Hp) (D : GE),
    GC X A c fs gd → n + ys.length = N → GK X Z N YR ip A R c fs K J D → GI X Z s₀ ip σ H s → t D ys σ H →
    Seg (model X.prog X.w) A R (GY X Z N YR) n s₀ c ((execs st X.env).wrap K J gd lv) fs s
section
variable {X : Cx} {Z : Own} {N : Nat} {YR : List V → V → Hp → Prop} {s₀ s s' : Shared} {ip : List (Addr × Obj)} {σ : L2.St} {H : Hp}
theorem GI.inv' {H' : Hp} {σ' : L2.St} (G : GI X Z s₀ ip σ H s) (I : Inv X (pinsAt (Z.f s₀.heap) s₀.heap ++ ip) σ' H' s') : GI X Z s₀ ip σ' H' s' := ⟨I, G.obj, G.old, G.cel, G.ipn⟩
theorem gss_nil : GSs X Z N YR [] (fun D ys σ H => D.nx ys σ H) :=
  ⟨fun A ip R n ys s₀ c fs K J gd lv s σ H D g hn k hI ht => seg_execs_nil (k.ok n ys s₀ s .next hn ⟨σ, H, hI, ht⟩)⟩
def tGThen (t u : TGB) : TGB := fun D ys σ H => t { D with nx := fun ys' σ' H' => u D ys' σ' H' } ys σ H
theorem gss_cons {st : Stmt} {rest : List Stmt} {t u : TGB} (a : GS X Z N YR st t) (b : GSs X Z N YR rest u) : GSs X Z N YR (st :: rest) (tGThen t u) := by
  refine ⟨fun A ip R n ys s₀ c fs K J gd lv s σ H D g hn k hI ht => ?_⟩
  refine seg_execs_cons ?_
  refine a.run A ip R n ys s₀ c fs _ J gd lv s σ H { D with nx := fun ys' σ' H' => u D ys' σ' H' } g hn ⟨fun n' ys' s₀' s' f hn' hs => ?_, k.exc⟩ hI ht
  cases f with
  | next =>
    obtain ⟨σ', H', I', q⟩ := hs
    exact b.run A ip R n' ys' s₀' c fs K J gd lv s' σ' H' D g hn' k I' q
  | brk => exact k.ok n' ys' s₀' s' .brk hn' hs
  | cont => exact k.ok n' ys' s₀' s' .cont hn' hs
  | ret u => exact k.ok n' ys' s₀' s' (.ret u) hn' hs
/-! ### yield -/
def tGYield (N : Nat) (YR : List V → V → Hp → Prop) (te : TE) : TGB := fun D ys σ H => ys.length < N ∧ te σ H fun x H1 => YR ys x H1 ∧ D.nx (ys ++ [x]) σ H1
theorem gs_yield {e : Expr} {yp pos : Pos} {te : TE} (he : PE X e te) (hco : X.env.scope.isCoroutine = false := by rfl) (hi : interactive X.env = false := by rfl) : GS X Z N YR (.Expr (.Yield (some e) yp) pos) (tGYield N YR te) := by
  refine ⟨fun A ip R n ys s₀ c fs K J gd lv s σ H D g hn k hI ht => ?_⟩
  obtain ⟨hlt, ht⟩ := ht
  obtain ⟨n, rfl⟩ : ∃ m, n = m + 1 := ⟨n - 1, by omega⟩
  refine seg_Expr_Yield g.split g.gd g.guard ?_ hco hi
  rw [g.over]
  refine wpAny_mono (he.run _ s σ H _ hI.inv ht) (fun v s' hv => ?_) fun x s' hx => k.exc _ s₀ x s' hx
  obtain ⟨x, H1, I1, rv, hy, q⟩ := hv
  have G1 : GI X Z s₀ ip σ H1 s' := hI.inv' I1
  intro kap hk
  refine ⟨ys, x, ip, σ, H1, hn, rv, hy, G1, fun s'' z => hk .none s'' ?_⟩
  refine k.ok n (ys ++ [x]) s'' s'' .next ?_ ⟨σ, H1, G1.woken z, q⟩
  rw [List.length_append, List.length_singleton]; omega
/-! ### if -/
def tGIf (tc : TT) (ta tb : TGB) : TGB := fun D ys σ H => tc σ H fun b H1 => if b = true then ta D ys σ H1 else tb D ys σ H1
theorem gs_if {test : Expr} {body orelse : List Stmt} {pos : Pos} {tc : TT} {ta tb : TGB} (hc : PT X test tc) (ha : GSs X Z N YR body ta) (hb : GSs X Z N YR orelse tb) : GS X Z N YR (.If test body orelse pos) (tGIf tc ta tb) := by
  refine ⟨fun A ip R n ys s₀ c fs K J gd lv s σ H D g hn k hI ht => ?_⟩
  rw [exec_If]
  refine seg_bind_wrap ?_
  rw [g.over]
  refine wpAny_standAt ?_
  refine seg_bind_wrap ?_
  rw [g.over]
  refine wpAny_mono (hc.run _ s σ H _ hI.inv ht) (fun b s' hb' => ?_) fun x s' hx => k.exc _ s₀ x s' hx
  obtain ⟨H1, I1, q⟩ := hb'
  cases b with
  | true =>
    rw [if_pos rfl] at q ⊢
    exact ha.run A ip R n ys s₀ c fs K J gd lv s' σ H1 D g hn k (hI.inv' I1) q
  | false =>
    rw [if_neg Bool.false_ne_true] at q ⊢
    exact hb.run A ip R n ys s₀ c fs K J gd lv s' σ H1 D g hn k (hI.inv' I1) q
end
end NS
set_option Elab.async false
set_option linter.all false
set_option maxRecDepth 100000
set_option maxHeartbeats 4000000
/-! A generator's body: for. -/
namespace NS
open PySem PySem.Spec PyProof.Rows L2 He GenW
section
variable {prog : Program} {w : World} {A : Around} {R : GenEnd} {Y : Protocol} {n : Nat} {s₀ : Shared} {fs : List Frame} {s : Shared} {env : Env} {c : Code}
abbrev noted (env : Env) (e : Value) : Sem PySem.Fin := (do noteFrame e env; theTreesLotGoes e : Sem Unit).wrap (fun _ => .raise e) .raise id id
theorem seg_forLoop {target : Expr} {it : Value} {body orelse : List Stmt}
    (h : wpAny (model prog w) (A.over (.forLoop target it body orelse env) fs) (pyNext it) (fun r s' => match r with
        | none => Seg (model prog w) A R Y n s₀ (.forLoop target it body orelse env) (.pure (.again (.block orelse env))) fs s'
        | some v => wpAny (model prog w) (A.over (.forLoop target it body orelse env) fs) (letOwnedTupleGo target it v) (fun _ s1 => wpAny (model prog w) (A.over (.forLoop target it body orelse env) fs) (assign target env v) (fun _ s2 =>
            Seg (model prog w) A R Y n s₀ (.forLoop target it body orelse env) ((execs body env).wrap (fun f => match f with
              | .next | .cont => .pure (.again (.forLoop target it body orelse env))
              | .brk => .pure (.done .next)
              | .ret v => .pure (.done (.ret v))) (noted env) id id) fs s2)
            (fun x s' => Seg (model prog w) A R Y n s₀ (.forLoop target it body orelse env) (noted env x) fs s') s1)
            (fun x s' => Seg (model prog w) A R Y n s₀ (.forLoop target it body orelse env) (noted env x) fs s') s')
      (fun x s' => Seg (model prog w) A R Y n s₀ (.forLoop target it body orelse env) (noted env x) fs s') s) :
    Seg (model prog w) A R Y n s₀ (.forLoop target it body orelse env) ((model prog w).den (.forLoop target it body orelse env)) fs s := by
  have hn : ∀ x : Value, ((do noteFrame x env; theTreesLotGoes x : Sem Unit).bind fun _ => (.raise x : Sem PySem.Fin)) = noted env x := fun x => by rw [Sem.bind_eq_wrap]
  have e1 : ∀ m : Sem PySem.Fin, (m.onRaise fun x => do noteFrame x env; theTreesLotGoes x) = m.wrap .pure (noted env) id id := fun m => by
    rw [Sem.onRaise_eq_wrap]
    exact Sem.wrap_congr _ _ _ (fun _ => rfl) fun x => hn x
  show Seg _ A R Y n s₀ _ ((forTurn target it body orelse env).onRaise (fun x => do noteFrame x env; theTreesLotGoes x)) fs s
  rw [e1]
  unfold forTurn
  refine seg_bind_wrap (wpAny_standAt ?_)
  refine seg_bind_wrap (wpAny_onRaise (wpAny_mono h (fun r s' hr => ?_) fun x s' hx => wpAny_standAt hx))
  cases r with
  | none => exact hr
  | some v =>
    refine seg_bind_wrap (wpAny_mono hr (fun _ s1 h1 => ?_) fun x s' hx => hx)
    refine seg_bind_wrap (wpAny_mono h1 (fun _ s2 h2 => ?_) fun x s' hx => hx)
    rw [Sem.bind_eq_wrap', Sem.wrap_wrap]
    refine Eq.mpr (congrArg (fun t => Seg (model prog w) A R Y n s₀ (.forLoop target it body orelse env) t fs s2) (Sem.wrap_congr (execs body env) _ _ (fun f => ?_) fun e => rfl)) h2
    cases f <;> rfl
theorem seg_For {target iter : Expr} {body orelse : List Stmt} {pos : Pos} {K : Flow → Sem PySem.Fin} {J : Value → Sem PySem.Fin} {gd : Bool → Bool} {lv : List Value → List Value}
    (h : wpAny (model prog w) (A.over c fs) (eval iter env) (fun x s1 => wpAny (model prog w) (A.over c fs) (pyIter x) (fun it s2 => ∀ p,
        Seg (model prog w) A R Y n s₀ (.forLoop target it body orelse env) ((model prog w).den (.forLoop target it body orelse env))
          (.ret (fun r => ((match r with | .ok f => (.pure f : Sem Flow) | .error e => .raise e).onRaise (cameBack env)).wrap K J gd lv) none (gd false) (lv []) c p [] :: fs) s2) (fun x s' => Seg (model prog w) A R Y n s₀ c (J x) fs s') s1) (fun x s' => Seg (model prog w) A R Y n s₀ c (J x) fs s') s)
    (hs : ∀ x, foldedSetIterable iter env x = pure x) :
    Seg (model prog w) A R Y n s₀ c ((exec (.For target iter body orelse pos) env).wrap K J gd lv) fs s := by
  rw [exec_For]
  refine seg_bind_wrap (wpAny_standAt ?_)
  refine seg_bind_wrap (wpAny_mono h (fun x s1 h1 => ?_) fun x s' hx => hx)
  refine seg_bind_wrap (wpAny_of_eq (hs x) ?_)
  refine seg_bind_wrap (wpAny_standAt ?_)
  refine seg_bind_wrap (wpAny_holding (wpAny_mono h1 (fun it s2 h2 => ?_) fun x s' hx => hx))
  exact seg_call h2
end
section
variable {X : Cx} {Z : Own} {N : Nat} {YR : List V → V → Hp → Prop}
def tGFor (wi : TI) (g : TG) (tb : TGB) : TGB := fun D ys σ H => wi σ H fun J H1 => ∃ W : Nat → Nat → List V → L2.St → Hp → Prop, (∃ m, W 0 m ys σ H1) ∧ ∀ i m ys σ H, W i m ys σ H →
  (J.stop i H ∧ D.nx ys σ H) ∨ (J.go i H ∧ ∃ Nn : List V → L2.St → Hp → Prop, (∀ ys' σ' H', Nn ys' σ' H' → ∃ m', m' < m ∧ W (i + 1) m' ys' σ' H') ∧ ∀ x H', J.yld i H x H' → g x σ H' fun σ2 H2 => tb { D with nx := Nn, ct := Nn, bk := D.nx } ys σ2 H2)
theorem gc_for {A : Around} {c c' : Code} {fs : List Frame} {gd : Bool → Bool} {k : Result → Sem PySem.Fin} {l kp : List Value} {p : Pos} (g : GC X A c fs gd) (hw : c'.weight = 0) (hu : c'.cUnits = 0) :
    GC X A c' (.ret k none (gd false) l c p kp :: fs) id where
  over := (over_loop hw hu).trans g.over
  split := by
    show (splitAtGen fs).map _ = none
    rw [g.split]; rfl
  guard := by
    show (gd false || fs.any Frame.guarded) = false
    rw [g.gd, g.guard]; rfl
  gd := rfl
theorem seg_came {ip : List (Addr × Obj)} {A : Around} {R : GenEnd} {c : Code} {fs : List Frame} {K : Flow → Sem PySem.Fin} {J : Value → Sem PySem.Fin} {gd : Bool → Bool} {lv : List Value → List Value} {D : GE} {n : Nat} {s₀ s : Shared} {e : Value}
    (g : GC X A c fs gd) (k : GK X Z N YR ip A R c fs K J D) (h : cameBackBy (model X.prog X.w) X.A X.env X.xe e s) :
    Seg (model X.prog X.w) A R (GY X Z N YR) n s₀ c (((Sem.raise e : Sem Flow).onRaise (cameBack X.env)).wrap K J gd lv) fs s := by
  show Seg _ _ _ _ _ _ _ (((cameBack X.env e).bind fun _ => (Sem.raise e : Sem Flow)).wrap K J gd lv) _ _
  rw [Sem.bind_eq_wrap, Sem.wrap_wrap]
  refine seg_wrap ?_
  rw [g.over]
  exact wpAny_mono h (fun _ s' hx => k.exc n s₀ e s' hx) fun x s' hx => k.exc n s₀ x s' hx
theorem gs_for {tg iter : Expr} {body : List Stmt} {pos : Pos} {wi : TI} {g : TG} {tb : TGB} (hp : PassesOwn (model X.prog X.w) X.A X.env X.xe) (hc : X.calm = true) (hi : PI X tg iter wi) (hg : PG X tg g) (hb : GSs X Z N YR body tb)
    (hs : ∀ x, foldedSetIterable iter X.env x = pure x := by intro _; rfl) : GS X Z N YR (.For tg iter body [] pos) (tGFor wi g tb) := by
  refine ⟨fun A ip R n ys s₀ c fs K J gd lv s σ H D gc hn k hI ht => ?_⟩
  refine seg_For ?_ hs
  rw [gc.over]
  refine wpAny_mono (hi.run _ s σ H _ hI.inv ht) (fun v s1 h1 => wpAny_mono h1 (fun itv s2 h2 => ?_) fun x s' hx => k.exc _ s₀ x s' hx) fun x s' hx => k.exc _ s₀ x s' hx
  obtain ⟨it, fp, tn, J1, H2, e, I2, T, st2, f2, W, ⟨m0, w0⟩, turn⟩ := h2
  subst e
  intro p
  have gl := fun (kk : Result → Sem PySem.Fin) => gc_for (k := kk) (c' := .forLoop tg (.ref it) body [] X.env) (l := lv []) (kp := []) (p := p) gc rfl rfl
  have nz0 : ∀ b ∈ Z.f s₀.heap, b ∉ fp := fun b hb hf => by
    obtain ⟨o, ho, _⟩ := hI.obj b hb
    exact (f2 b hf).2.2.2.2.2 (b, o) (List.mem_append_right _ (List.mem_append_left _ (mem_pinsAt hb ho))) rfl
  have stat : ∀ {s₀' : Shared} {H' : Hp}, (∀ b ∈ fp, H' b = none) → (∀ b ∈ Z.f s₀'.heap, b ∉ fp) → ∀ b ∈ fp, FpOk X (pinsAt (Z.f s₀'.heap) s₀'.heap ++ ip) H' b := fun hn hz b hb => by
    obtain ⟨_, q1, q2, q3, q4, q5⟩ := f2 b hb
    refine ⟨hn b hb, q1, q2, q3, q4, fun p hp => ?_⟩
    rcases List.mem_append.mp hp with h | h
    · exact q5 p (List.mem_append_left _ h)
    · rcases List.mem_append.mp h with h | h
      · exact fun e => hz p.1 (of_pinsAt h).1 (e ▸ hb)
      · exact q5 p (List.mem_append_right _ (List.mem_append_right _ h))
  have ee : ∀ (n : Nat) (s₀ : Shared) (x : Value) (s' : Shared), X.xe x s' → Seg (model X.prog X.w) A R (GY X Z N YR) n s₀ (.forLoop tg (.ref it) body [] X.env) (noted X.env x)
      (.ret (fun r => ((match r with | .ok f => (.pure f : Sem Flow) | .error e => .raise e).onRaise (cameBack X.env)).wrap K J gd lv) none (gd false) (lv []) c p [] :: fs) s' := fun n s₀ x s' hx => by
    refine seg_wrap ?_
    rw [(gl _).over]
    refine wpAny_bind (wpAny_mono (hp x s' hx) (fun _ s'' hcb => wpAny_theTreesLotGoes ?_) fun y s'' hcb => ?_)
    · exact seg_leaf (.error x) (seg_came gc k hcb)
    · exact seg_leaf (.error y) (seg_came gc k hcb)
  have loop : ∀ (m i n : Nat) (ys : List V) (s₀ s : Shared) (σ : L2.St) (H : Hp), n + ys.length = N → W i m ys σ H → GI X Z s₀ ip σ H s → tn i s.heap → (∀ b ∈ fp, H b = none) → (∀ b ∈ Z.f s₀.heap, b ∉ fp) →
      Seg (model X.prog X.w) A R (GY X Z N YR) n s₀ (.forLoop tg (.ref it) body [] X.env) ((model X.prog X.w).den (.forLoop tg (.ref it) body [] X.env))
        (.ret (fun r => ((match r with | .ok f => (.pure f : Sem Flow) | .error e => .raise e).onRaise (cameBack X.env)).wrap K J gd lv) none (gd false) (lv []) c p [] :: fs) s := by
    intro m
    induction m using Nat.strongRecOn with
    | ind m ih =>
      intro i n ys s₀ s σ H hn w hI st hfr hz
      refine seg_forLoop ?_
      rw [(gl _).over]
      rcases turn i m ys σ H w with ⟨stop, qn⟩ | ⟨go, Nn, hN, step⟩
      · refine wpAny_mono (T.done X rfl rfl rfl hc i _ s σ H X.xe hI.inv (stat hfr hz) st stop) (fun r s4 h4 => ?_) fun x s' hx => ee n s₀ x s' hx
        obtain ⟨hr, I4⟩ := h4
        subst hr
        refine seg_again rfl ?_
        exact seg_leaf (.ok .next) (k.ok n ys s₀ s4 .next hn ⟨σ, H, hI.inv' I4, qn⟩)
      · refine wpAny_mono (T.item X rfl rfl rfl hc i _ s σ H X.xe hI.inv (stat hfr hz) st go) (fun r s4 h4 => ?_) fun x s' hx => ee n s₀ x s' hx
        obtain ⟨u, hr, h4⟩ := h4
        subst hr
        refine wpAny_mono h4 (fun _ s5 h5 => ?_) fun x s' hx => ee n s₀ x s' hx
        obtain ⟨x, H5, I5, r5, y5, st5, fr5⟩ := h5
        have I5' := I5.pinned (stat fr5 hz) (T.obj _ _ st5)
        refine wpAny_mono (hg.run _ s5 σ H5 x u _ I5' r5 (step x H5 y5)) (fun _ s6 h6 => ?_) fun x s' hx => ee n s₀ x s' hx
        obtain ⟨σ6, H6, I6, q6⟩ := h6
        have G6 : GI X Z s₀ (ip ++ pinsAt fp s5.heap) σ6 H6 s6 := by
          refine ⟨by rw [← List.append_assoc]; exact I6, hI.obj, hI.old, hI.cel, fun b hb q hq => ?_⟩
          rcases List.mem_append.mp hq with h | h
          · exact hI.ipn b hb q (List.mem_append_left _ h)
          · rcases List.mem_append.mp h with h | h
            · exact hI.ipn b hb q (List.mem_append_right _ h)
            · exact fun e => hz b hb (e ▸ (of_pinsAt h).1)
        have back : ∀ {s₀' s' : Shared} {σ' : L2.St} {H' : Hp}, GI X Z s₀' (ip ++ pinsAt fp s5.heap) σ' H' s' → GI X Z s₀' ip σ' H' s' := fun {s₀' s' σ' H'} G => by
          refine ⟨?_, G.obj, G.old, G.cel, fun b hb q hq => ?_⟩
          · have := G.inv
            rw [← List.append_assoc] at this
            exact this.unpinned
          · rcases List.mem_append.mp hq with h | h
            · exact G.ipn b hb q (List.mem_append_left _ h)
            · exact G.ipn b hb q (List.mem_append_right _ (List.mem_append_left _ h))
        have again : ∀ {n' : Nat} {ys' : List V} {s₀' s' : Shared} {σ' : L2.St} {H' : Hp}, n' + ys'.length = N → GI X Z s₀' (ip ++ pinsAt fp s5.heap) σ' H' s' → Nn ys' σ' H' →
            Seg (model X.prog X.w) A R (GY X Z N YR) n' s₀' (.forLoop tg (.ref it) body [] X.env) (.pure (.again (.forLoop tg (.ref it) body [] X.env)))
              (.ret (fun r => ((match r with | .ok f => (.pure f : Sem Flow) | .error e => .raise e).onRaise (cameBack X.env)).wrap K J gd lv) none (gd false) (lv []) c p [] :: fs) s' := fun {n' ys' s₀' s' σ' H'} hn' G n7 => by
          obtain ⟨m', hm, w7⟩ := hN _ _ _ n7
          have pin : ∀ b ∈ fp, ∀ o, s5.heap.get? b = some o → s'.heap.get? b = some o ∧ H' b = none := fun b hb o e =>
            let z := G.inv.pin (b, o) (List.mem_append_right _ (List.mem_append_right _ (List.mem_append_right _ (mem_pinsAt hb e))))
            ⟨z.1, z.2.1⟩
          refine seg_again rfl (ih m' hm (i + 1) n' ys' s₀' s' σ' H' hn' w7 (back G) (T.keep _ _ _ st5 fun b hb o e => (pin b hb o e).1) (fun b hb => ?_) fun b hb hf => ?_)
          · obtain ⟨o, e, _⟩ := T.obj _ _ st5 b hb
            exact (pin b hb o e).2
          · obtain ⟨o, e, _⟩ := T.obj _ _ st5 b hf
            exact G.ipn b hb (b, o) (List.mem_append_right _ (List.mem_append_right _ (mem_pinsAt hf e))) rfl
        refine hb.run A (ip ++ pinsAt fp s5.heap) R n ys s₀ _ _ _ _ id id s6 σ6 H6 { D with nx := Nn, ct := Nn, bk := D.nx } (gl _) hn ⟨fun n' ys' s₀' s7 f hn' hs7 => ?_, fun n' s₀' x s3 hx => ee n' s₀' x s3 hx⟩ G6 q6
        cases f with
        | next => obtain ⟨σ7, H7, I7, n7⟩ := hs7; exact again hn' I7 n7
        | cont => obtain ⟨σ7, H7, I7, n7⟩ := hs7; exact again hn' I7 n7
        | brk => obtain ⟨σ7, H7, I7, q7⟩ := hs7; exact seg_leaf (.ok .next) (k.ok n' ys' s₀' s7 .next hn' ⟨σ7, H7, back I7, q7⟩)
        | ret v => obtain ⟨x7, σ7, H7, I7, r7, q7⟩ := hs7; exact seg_leaf (.ok (.ret v)) (k.ok n' ys' s₀' s7 (.ret v) hn' ⟨x7, σ7, H7, back I7, r7, q7⟩)
  exact loop m0 0 n ys s₀ s2 σ H2 hn w0 (hI.inv' I2) st2 (fun b hb => (f2 b hb).1) nz0
end
end NS
set_option Elab.async false
set_option linter.all false
set_option maxRecDepth 100000
set_option maxHeartbeats 4000000
/-! A generator def's promise, its consumer of any kind. -/
namespace NS
open PySem PySem.Spec PyProof.Rows L2 He GenW
/-- the item v stands at the i-th of items, as a tuple of texts -/
def ItemAt (items : List (Str × Str × Str)) (i : Nat) (v : Value) (h : Heap) : Prop := ∃ T it us, v = .ref T ∧ items[i]? = some it ∧ h.IsTuple T us ∧ Vals [.str it.1, .str it.2.1, .str it.2.2] us.toList
def YI (sc : Shared) (Z : Own) (a : Addr) (g N : Nat) (items : List (Str × Str × Str)) : Protocol := fun n s₀ v s1 kap =>
  s1.os = sc.os ∧ AllBare s1.gens ∧ s1.heap.NoLimit ∧ s1.heap.IsGen a g ∧ (∀ b ∈ Z.f s₀.heap, s1.heap.get? b = s₀.heap.get? b) ∧ (∃ i, n + 1 + i = N ∧ ItemAt items i v s1.heap) ∧ ∀ s', Idle Z s1 s' → kap (.send .none) s'
def RE (P : Program) (w : World) (outer : List Env) (H0 : Hp) (sc : Shared) (Z : Own) (N : Nat) (items : List (Str × Str × Str)) : GenEnd := fun n s₀ r s1 =>
  ((r = .ok (.ret .none) ∨ r = .ok .next) ∧ n + items.length = N ∧ s1.os = sc.os ∧ AllBare s1.gens ∧ (∀ b ∈ Z.f s₀.heap, s1.heap.get? b = s₀.heap.get? b) ∧ ∃ H', Un (frs outer) [] H0 H' sc.heap s1.heap ∧ HOk P w H' s1.heap ∧ Same H0 H' ∧ ∀ b ∈ Z.f s₀.heap, H' b = none) ∨
  ∃ e, r = .error e ∧ False
/-- a generator that has not begun -/
def GM (P : Program) (w : World) (k : Nat) (outer : List Env) (H0 : Hp) (sc : Shared) (N : Nat) (items : List (Str × Str × Str)) (u : Value) (s' : Shared) : Prop :=
  ∃ (a : Addr) (g : Nat) (c : Code), u = .ref a ∧ sc.heap.objs.size ≤ a ∧ a < s'.heap.objs.size ∧ s'.heap.IsGen a g ∧ s'.gens[g]? = some (.fresh c) ∧ s'.os = sc.os ∧ AllBare s'.gens ∧ s'.heap.NoLimit ∧ (∀ b o, sc.heap.get? b = some o → s'.heap.get? b = some o) ∧
    ∀ (A : Around) (Z : Own) (s2 : Shared), Room k A → A.frames = some outer → (∀ b o, s'.heap.get? b = some o → s2.heap.get? b = some o) → (∀ b ∈ Z.f s2.heap, s'.heap.objs.size ≤ b ∧ ∃ o, s2.heap.get? b = some o ∧ ∀ v, o.data ≠ .cell v) → s2.os = sc.os → AllBare s2.gens →
      Seg (model P w) A (RE P w outer H0 sc Z N items) (YI sc Z a g N items) N s2 c ((model P w).den c) [] s2
def YRi (items : List (Str × Str × Str)) (ys : List V) (x : V) (H : Hp) : Prop := ∃ T it, x = .ref T ∧ items[ys.length]? = some it ∧ H T = some (.tup [.str it.1, .str it.2.1, .str it.2.2])
structure GFn2 (P : Program) (w : World) (K : PySem.W.Frag) (mg : Str → Option Value) (base : Heap) (k N : Nat) (f : Addr) (fd : FuncData) (ps : List Str) (sp : List V → Hp → List (Str × Str × Str) → Prop) : Prop where
  len : ∀ vs H it, sp vs H it → vs.length = ps.length
  run : ∀ (A : Around) (outer : List Env) (s : Shared) (H : Hp) (args : Args) (us : List Value) (vs : List V) (items : List (Str × Str × Str)), Room k A → Env0 P w K mg base A outer s H → BindsTo s fd args (ps.zip us) → Vals vs us → sp vs H items →
    codeAny (model P w) A (.call (.ref f) args) (fun r s' => match r with | .ok (.ret u) => GM P w k outer H s N items u s' | _ => False) s
theorem gfn2_of {P : Program} {w : World} {K : PySem.W.Frag} {mg : Str → Option Value} {base : Heap} {k NN : Nat} {f : Addr} {name qual : Str} {params : Arguments} {body : List Stmt} {scope : Scope} {dV kV doc pm cdv ct oc : Value} {an od : Option Addr}
    {osl : Array (Option Value)} {N ps : List Str} {sp : List V → Hp → List (Str × Str × Str) → Prop} (lk : K.lookup f = some ⟨oc, od, .func (PySem.W.fnOf name qual params body scope dV kV doc pm an cdv ct), osl⟩) (hcd : PySem.W.codeIn K cdv qual = true) (S : GScope N ps scope)
    (len : ∀ vs H it, sp vs H it → vs.length = ps.length)
    (hbody : ∀ (A : Around) (outer : List Env) (s : Shared) (H : Hp) (vs : List V) (items : List (Str × Str × Str)) (pn : List (Addr × Obj)) (Z : Own), Room k (A.deeper (envOfC qual scope s.heap.objs.size f cdv)) → sp vs H items →
      ∃ t, GSs (gcxOf P w K mg base N qual scope f cdv A outer s H E0 pn) Z NN (YRi items) body t ∧ t { nx := fun ys _ H' => ys.length = items.length ∧ Same H H', rt := fun _ _ _ => False } [] (start N vs) H) :
    GFn2 P w K mg base (k + 1) NN f (PySem.W.fnOf name qual params body scope dV kV doc pm an cdv ct) ps sp := by
  refine ⟨len, fun A outer s H args us vs items hr e0 hb r hsp => ?_⟩
  have hl := len _ _ _ hsp
  have KX : K.In s.heap := e0.mod.kin.keeps fun b o e => (e0.bs b o e).1
  have lim : s.heap.NoLimit := e0.mod.nolimit.keeps fun b o e => (e0.bs b o e).1
  have hkind : ∀ y ∈ ps.zip us, scope.names.lookup y.1 = some .local ∨ (scope.names.lookup y.1 = some .cell ∧ ((cellsFrom (s.heap.objs.size + 1) scope.names []).lookup y.1).isSome = true) := fun ⟨n, v⟩ hy => by
    rcases S.par n (List.of_mem_zip hy).1 with q | q
    · exact .inl q
    · exact .inr ⟨q, PySem.W.cellsFrom_some _ _ _ (.inl q)⟩
  refine codeAny_call_generator hr.depth (KX _ _ lk) rfl S.co S.gen rfl (PySem.W.codeRec_of KX hcd) (hb _ _ _ _ ?_)
  refine wpAny_newFunctionEnv_cells S.kind hkind fun env he s1 x => ?_
  subst he
  have lim1 : s1.heap.NoLimit := lim.keeps x.toInCall.keep
  refine ⟨lim1, ?_⟩
  obtain ⟨h1, tk, es1, hk1⟩ := x.done
  have os1 : s1.os = s.os := by rw [es1]
  have gen1 : s1.gens = s.gens := by rw [es1]
  have lt1 : s.heap.objs.size < s1.heap.objs.size := x.toInCall.ns.lt
  have sz1 : s.heap.objs.size ≤ s1.heap.objs.size := Nat.le_of_lt lt1
  have kp1 : ∀ b o, s.heap.get? b = some o → s1.heap.get? b = some o := x.toInCall.keep
  have main : ∀ (go : Obj) (nm qn : Value) (tk2 : Nat), go.cls = .type "generator" → go.data = .fields #[.int s1.gens.size 0, nm, qn] → go.slots = #[] → (∀ h : Heap, (h.push go).get? h.objs.size = some go) →
      GM P w (k + 1) outer H s NN items (.ref s1.heap.objs.size) { s1 with gens := s1.gens.push (.fresh (.func body (envOfC qual scope s.heap.objs.size f cdv))), toks := tk2, heap := s1.heap.push go } := by
    intro go nm qn tk2 hgc hgd0 hgs hgp
    have hgen : ∀ h : Heap, h.get? s1.heap.objs.size = some go → h.IsGen s1.heap.objs.size s1.gens.size := fun h e => ⟨go, nm, qn, e, hgc, hgd0, hgs⟩
    have hpushed : (s1.heap.push go).get? s1.heap.objs.size = some go := hgp _
    refine ⟨s1.heap.objs.size, s1.gens.size, _, rfl, sz1, ?_, hgen _ hpushed, Array.getElem?_push_size .., os1, ?_, lim1.keeps fun b o e => Heap.get?_push_of_some _ e, fun b o e => Heap.get?_push_of_some _ (kp1 b o e), ?_⟩
    · show _ < (s1.heap.push _).objs.size
      rw [Heap.size_push]; exact Nat.lt_succ_self _
    · exact AllBare.push (by rw [gen1]; exact e0.bare) rfl
    intro Aw Z s2 hrw hfr hk2 hZ hos hba
    have e0w : Env0 P w K mg base Aw outer s H := ⟨hfr, e0.mod, e0.bs, e0.bsz, e0.funs, e0.frf, e0.hok, e0.bare⟩
    obtain ⟨t, ht, hq⟩ := hbody Aw outer s H vs items [(s1.heap.objs.size, go)] Z (hrw.deeper _) hsp
    have I1 : Inv (gcxOf P w K mg base N qual scope f cdv Aw outer s H E0 []) [] (start N vs) H s1 := inv_startG S hrw.hd e0w hl r x
    have kp2 : ∀ b o, s1.heap.get? b = some o → s2.heap.get? b = some o := fun b o e => hk2 b o (Heap.get?_push_of_some _ e)
    have I2 : Inv (gcxOf P w K mg base N qual scope f cdv Aw outer s H E0 []) [] (start N vs) H s2 :=
      I1.call' (ch := []) (hos.trans os1.symm) (Un.kept kp2) (I1.hok.kept kp2) hba fun b z => by simp at z
    have hZ1 : ∀ b ∈ Z.f s2.heap, s1.heap.objs.size < b := fun b hb => by
      have h := (hZ b hb).1
      have h' : (s1.heap.push go).objs.size ≤ b := h
      rw [Heap.size_push] at h'
      exact h'
    have hea : s2.heap.get? s1.heap.objs.size = some go := hk2 s1.heap.objs.size go hpushed
    have hgd : ∀ v, go.data ≠ .cell v := fun v q => by rw [hgd0] at q; cases q
    have young : ∀ b, s1.heap.objs.size ≤ b → H b = none ∧ b ≠ s.heap.objs.size ∧ b ∉ frs outer ∧ s.heap.objs.size ≤ b ∧ ∀ y c, (cellsFrom (s.heap.objs.size + 1) scope.names []).lookup y = some c → c ≠ b := fun b hb => by
      refine ⟨I1.hok.fresh hb, Nat.ne_of_gt (Nat.lt_of_lt_of_le lt1 hb), I1.nofs hb, Nat.le_trans sz1 hb, fun y c e z => ?_⟩
      obtain ⟨v, ob, ho, _⟩ := I1.cell y c e
      have := Heap.lt_size ho
      rw [z] at this
      exact absurd (Nat.lt_of_lt_of_le this hb) (Nat.lt_irrefl _)
    have hG : GI (gcxOf P w K mg base N qual scope f cdv Aw outer s H E0 [(s1.heap.objs.size, go)]) Z s2 [] (start N vs) H s2 := by
      refine ⟨Inv.pinnedG I2 fun p hp => ?_, fun b hb => (hZ b hb).2, fun b hb => (young b (Nat.le_of_lt (hZ1 b hb))).2.2.2.1, fun b hb => (young b (Nat.le_of_lt (hZ1 b hb))).2.2.2.2, fun b hb q hq => ?_⟩
      · rcases List.mem_append.mp hp with z | z
        · rw [List.mem_singleton.mp z]
          obtain ⟨y1, y2, y3, _, _⟩ := young s1.heap.objs.size (Nat.le_refl _)
          exact ⟨hea, y1, y2, y3, hgd⟩
        · rw [List.append_nil] at z
          obtain ⟨hb, e⟩ := of_pinsAt z
          obtain ⟨y1, y2, y3, _, _⟩ := young p.1 (Nat.le_of_lt (hZ1 p.1 hb))
          obtain ⟨o, ho, hd⟩ := (hZ p.1 hb).2
          rw [e] at ho
          cases ho
          exact ⟨e, y1, y2, y3, hd⟩
      · rw [List.append_nil] at hq
        rw [List.mem_singleton.mp hq]
        exact Nat.ne_of_lt (hZ1 b hb)
    have pinned : ∀ {s₀' s' : Shared} {ip : List (Addr × Obj)} {σ' : L2.St} {H' : Hp}, GI (gcxOf P w K mg base N qual scope f cdv Aw outer s H E0 [(s1.heap.objs.size, go)]) Z s₀' ip σ' H' s' → s'.heap.IsGen s1.heap.objs.size s1.gens.size := fun {s₀' s' ip σ' H'} hI =>
      hgen _ (hI.inv.pin (s1.heap.objs.size, go) (List.mem_append_left _ (List.mem_singleton.mpr rfl))).1
    refine seg_func ?_
    refine seg_imp (R := GR (gcxOf P w K mg base N qual scope f cdv Aw outer s H E0 [(s1.heap.objs.size, go)]) Z NN (fun ys v H' => v = .non ∧ ys.length = items.length ∧ Same H H') fun e s' => False)
      (Y := GY (gcxOf P w K mg base N qual scope f cdv Aw outer s H E0 [(s1.heap.objs.size, go)]) Z NN (YRi items)) (fun n s₀ r s1' hR => ?_) (fun n s₀ v s1' kap kap' hkk hY => ?_) NN ?_
    · cases r with
      | error e => exact .inr ⟨e, rfl, hR⟩
      | ok fl =>
        cases fl with
        | next => exact False.elim hR
        | brk => exact False.elim hR
        | cont => exact False.elim hR
        | ret u =>
          obtain ⟨ys, v, ip, σ', H', hn, hI, rv, ev, hlen, hsame⟩ := hR
          subst ev
          have eu : u = Value.none := rv
          subst eu
          exact .inl ⟨.inl rfl, by rw [← hlen]; exact hn, hI.inv.os, hI.inv.bare, fun b hb => (hI.pinZ hb).1, H', hI.inv.base, hI.inv.hok, hsame, fun b hb => (hI.pinZ hb).2.1⟩
    · obtain ⟨ys, xx, ip, σ', H', hn, rv, ⟨T, it, ex, hit, hT⟩, hI, h3⟩ := hY
      subst ex
      obtain rfl : v = Value.ref T := rv
      have hob : ObjOk P w H' s1'.heap T (.tup [.str it.1, .str it.2.1, .str it.2.2]) := hI.inv.hok T _ hT
      obtain ⟨_, its, rel, ht⟩ := hob
      exact ⟨hI.inv.os, hI.inv.bare, hI.inv.nolimit, pinned hI, fun b hb => (hI.pinZ hb).1, ⟨ys.length, hn, T, it, its.toArray, rfl, hit, ht, rel⟩, fun s' z => hkk _ _ (h3 s' z)⟩
    · refine ht.run Aw [] _ NN [] s2 _ [] _ _ id id s2 (start N vs) H _ ⟨over_func, rfl, rfl, rfl⟩ (Nat.add_zero _) ⟨fun n ys s₀ s' fl hn hs => ?_, fun n s₀ e s' hx => ?_⟩ hG hq
      · cases fl with
        | next =>
          obtain ⟨σ', H', hI, hQ⟩ := hs
          exact seg_end (.ok (.ret .none)) ⟨ys, .non, [], σ', H', hn, hI, rfl, rfl, hQ⟩
        | brk => obtain ⟨_, _, _, q⟩ := hs; exact False.elim q
        | cont => obtain ⟨_, _, _, q⟩ := hs; exact False.elim q
        | ret u => obtain ⟨v, σ', H', hI, rv, q⟩ := hs; exact False.elim q
      · refine seg_wrap ?_
        rw [over_func]
        refine wpAny_mono (show wpAny (model P w) (Aw.deeper (envOfC qual scope s.heap.objs.size f cdv)) (leaving (envOfC qual scope s.heap.objs.size f cdv) e) (fun _ s'' => CX P w outer H s E0 e s'' ∧ ∀ p ∈ [(s1.heap.objs.size, go)], s''.heap.get? p.1 = some p.2) (fun _ _ => False) s' from hx) (fun _ s'' q => ?_) fun _ s'' q => q.elim
        obtain ⟨⟨_, _, _, _, _, _, _, _, _, _, _, _, hf⟩, _⟩ := q
        exact hf.elim
  exact main _ _ _ _ rfl rfl rfl fun h => Heap.get?_push_size _ rfl
end NS
set_option Elab.async false
set_option linter.all false
set_option maxRecDepth 100000
set_option maxHeartbeats 4000000
/-! The cells of a table, handed out one by one. -/
namespace NS
open PySem PySem.Spec PyProof.Rows L2 He GenW
local macro_rules | `(tactic| walk_at "nf") => `(tactic| dsimp only [L2.tNext, L2.tSeq, L2.tDrop, L2.tRet, L2.tRetN, L2.tIfS, L2.tAsg, L2.gName, L2.gCons, L2.gNil, L2.gTup, L2.tOp, L2.tUn, L2.tTest, L2.tChain, L2.tB, L2.tAnd, L2.tOr, L2.tNot, L2.tAndV, L2.tOrV, L2.tNotV, L2.tIf, L2.tCB, L2.tNil, L2.tCons, L2.tTup, L2.tLst, L2.tFld, L2.sFld, L2.tCall, L2.tMeth, L2.tMake, L2.tBM, L2.tBM0, L2.tM1, L2.tM0, L2.tSl, L2.tPart, L2.tNoPart, L2.tPar, L2.tVar, L2.tC, L2.cxOf, L2.tYes, C8.tCut])
def GFW (J : It) (g : TG) (tb : TGB) (D : GE) (ys : List V) (σ : L2.St) (H : Hp) : Prop := ∃ W : Nat → Nat → List V → L2.St → Hp → Prop, (∃ m, W 0 m ys σ H) ∧ ∀ i m ys σ H, W i m ys σ H →
  (J.stop i H ∧ D.nx ys σ H) ∨ (J.go i H ∧ ∃ N : List V → L2.St → Hp → Prop, (∀ ys' σ' H', N ys' σ' H' → ∃ m', m' < m ∧ W (i + 1) m' ys' σ' H') ∧ ∀ x H', J.yld i H x H' → g x σ H' fun σ2 H2 => tb { D with nx := N, ct := N, bk := D.nx } ys σ2 H2)
theorem gfor_open {K : PySem.W.Frag} {g : TG} {tb : TGB} {D : GE} {ys : List V} {σ : L2.St} {H : Hp} {tl : TE} (h : tl σ H fun x H1 => ∃ a, x = .ref a ∧ (∃ xs, SqT K H1 a xs) ∧ GFW (Itt K a) g tb D ys σ H1) : tGFor (iTup K tl) g tb D ys σ H := h
theorem gfor_it {J : It} {n : Nat} {G : Hp → Prop} {Y : Nat → Hp → V → Hp → Prop} (w : Walk J n G Y) {g : TG} {tb : TGB} {D : GE} {ys : List V} {σ : L2.St} {H : Hp} (Pv : Nat → List V → L2.St → Hp → Prop) (h0 : Pv 0 ys σ H) (hG : ∀ i ys σ H, i ≤ n → Pv i ys σ H → G H)
    (hs : ∀ i x ys σ H H', i < n → Pv i ys σ H → Y i H x H' → g x σ H' fun σ2 H2 => tb { D with nx := Pv (i + 1), ct := Pv (i + 1), bk := D.nx } ys σ2 H2) (hd : ∀ ys σ H, Pv n ys σ H → D.nx ys σ H) :
    GFW J g tb D ys σ H := by
  refine ⟨fun i m ys σ H => m = n - i ∧ i ≤ n ∧ Pv i ys σ H, ⟨n, by simp, Nat.zero_le _, h0⟩, ?_⟩
  rintro i m ys σ H ⟨rfl, hi, p⟩
  have q := hG i ys σ H hi p
  by_cases hlt : i < n
  · exact .inr ⟨w.goes i H hlt q, Pv (i + 1), fun ys' σ' H' p' => ⟨n - (i + 1), by omega, rfl, hlt, p'⟩, fun x H' y => hs i x ys σ H H' hlt p (w.yields i H x H' hlt q y)⟩
  · have e : i = n := by omega
    subst e
    exact .inl ⟨w.stops H q, hd ys σ H p⟩
def itC (r : Str × Cells) (cols : List Str) : List (Str × Str × Str) := cols.filterMap fun c => (cell r.2 c).map fun a => (r.1, c, a)
def itR (cols : List Str) (rows : Rws) : List (Str × Str × Str) := rows.flatMap fun r => itC r cols
theorem itC_len (r : Str × Cells) (cols : List Str) : (itC r cols).length ≤ cols.length := List.length_filterMap_le ..
theorem itR_len (cols : List Str) : ∀ rows : Rws, (itR cols rows).length ≤ rows.length * cols.length
  | [] => by simp [itR]
  | r :: rows => by
    have := itR_len cols rows
    have h2 := itC_len r cols
    unfold itR at this ⊢
    rw [List.flatMap_cons, List.length_append, List.length_cons, Nat.succ_mul]
    omega
theorem itR_at {cols : List Str} {rows : Rws} {i j : Nat} {r : Str × Cells} {c : Str} {a : Str} (hr : rows[i]? = some r) (hc : cols[j]? = some c) (h : cell r.2 c = some a) :
    (itR cols rows)[(itR cols (rows.take i)).length + (itC r (cols.take j)).length]? = some (r.1, c, a) := by
  have e1 : rows = rows.take i ++ r :: rows.drop (i + 1) := by
    obtain ⟨hi, e⟩ := List.getElem?_eq_some_iff.mp hr
    rw [← e, List.getElem_cons_drop, List.take_append_drop]
  have e2 : cols = cols.take j ++ c :: cols.drop (j + 1) := by
    obtain ⟨hj, e⟩ := List.getElem?_eq_some_iff.mp hc
    rw [← e, List.getElem_cons_drop, List.take_append_drop]
  have e3 : itR cols rows = itR cols (rows.take i) ++ (itC r cols ++ itR cols (rows.drop (i + 1))) := by
    conv => lhs; rw [e1]
    unfold itR
    rw [List.flatMap_append, List.flatMap_cons]
  have e4 : itC r cols = itC r (cols.take j) ++ ((r.1, c, a) :: itC r (cols.drop (j + 1))) := by
    conv => lhs; rw [e2]
    unfold itC
    rw [List.filterMap_append, List.filterMap_cons, h]
    rfl
  rw [e3, List.getElem?_append_right (Nat.le_add_right _ _), Nat.add_sub_cancel_left, List.getElem?_append_left (by rw [e4, List.length_append, List.length_cons]; omega), e4, List.getElem?_append_right (Nat.le_refl _), Nat.sub_self]
  rfl
section
variable {P : Program} {w : World} {K : PySem.W.Frag} {mg : Str → Option Value} {base : Heap}
def sp_cells (K : PySem.W.Frag) (vs : List V) (H : Hp) (items : List (Str × Str × Str)) : Prop := ∃ t cols rows, vs = [.ref t] ∧ TableAt K H t cols rows ∧ OkCols cols ∧ OkRows cols rows ∧ items = itR cols rows
theorem sc_Table_cells : GScope ["self", "place", "column"] ["self"] (defScope sTable_cells) := ⟨rfl, rfl, rfl, by decide +kernel, rfl, by decide +kernel, by decide +kernel⟩
theorem ok_Table_cells (T : Tx K mg) : ∃ fd, GFn2 P w K mg base (3 + 1) 100 (ma K (ga K "Table") "cells") fd ["self"] (sp_cells K) ∧ Binds K fd ["self"] [] := by
  obtain ⟨fd, F⟩ := T.f_Table_cells
  obtain ⟨oc, od, dV, kV, doc, pm, an, cdv, ct, osl, efd, lk, hcd, _, _⟩ := id F.ex
  refine ⟨fd, ?_, F.bindsN (fun _ _ _ _ _ _ us hl => match us, hl with | [_], _ => rfl)⟩
  rw [efd] at lk ⊢
  refine gfn2_of lk hcd sc_Table_cells (fun vs H it h => ?_) (fun A outer s H vs items pn Z hr h => ?_)
  · obtain ⟨t, cols, rows, rfl, _⟩ := h
    rfl
  · obtain ⟨t, cols, rows, rfl, ht, hc, ho, rfl⟩ := h
    have nd := sc_Table_cells.nd
    have hu := hu_of hr
    refine ⟨_, (gss_cons (gs_for owns_gcx rfl (pi_tup (pe_propC (ok_Table_places T) hr (by decide) (pv 0))) (pg_name (i := 1) nd rfl (Or.inl rfl))
      (gss_cons (gs_for owns_gcx rfl (pi_tup (pe_fld (pv 0) rfl)) (pg_name (i := 2) nd rfl (Or.inl rfl))
      (gss_cons (gs_if (pt_cmp (pc_din hu (pv 2) (pe_dget hu (pe_fld (pv 0) rfl) (pv 1) (fun _ _ => rfl)))) (gss_cons (gs_yield (pe_tup (pa_cons (pv 1) (pa_cons (pv 2) (pa_cons (pe_dget hu (pe_dget hu (pe_fld (pv 0) rfl) (pv 1) (fun _ _ => rfl)) (pv 2) (fun _ _ => rfl)) pa_nil)))))
      gss_nil) gss_nil)
      gss_nil))
      gss_nil))
      gss_nil), ?_⟩
    obtain ⟨dx, ct2, rd, h1, h2, h3⟩ := ht.ex
    dsimp only [tGThen]
    refine gfor_open ?_
    dsimp only [tPrp, L2.tVar, L2.start]
    refine ⟨_, rfl, t, dx, _, rfl, h1, t, cols, rows, rfl, ht, ho, fun H1 pl e1 hn1 hp1 => ⟨pl, rfl, ⟨_, SqT.of hp1⟩, ?_⟩⟩
    refine gfor_it (walk_tup (xs := (rows.map Prod.fst).map V.str)) (fun i ys σ H' => ∃ o1 o2, σ = [some (.ref t), o1, o2] ∧ Same H1 H' ∧ ys.length = (itR cols (rows.take i)).length)
      ⟨none, none, rfl, Same.refl _, rfl⟩ (fun i ys σ H' _ ⟨_, _, _, e, _⟩ => Same.tup e (SqT.of hp1)) ?_ ?_
    · rintro i v ys σ H0 H' hi ⟨o1, o2, rfl, e2, hys⟩ ⟨rfl, hv⟩
      obtain ⟨p, hp, rfl⟩ := get_map_str hv
      rw [List.getElem?_map] at hp
      obtain ⟨r, hr1, rfl⟩ := Option.map_eq_some_iff.mp hp
      have e02 := e1.trans e2
      have hnth := List.getElem?_eq_some_iff.mp hr1
      have hil : i < rows.length := hnth.1
      have hrm : r ∈ rows := List.mem_of_getElem? hr1
      dsimp only [L2.gName, tGThen, List.set]
      refine gfor_open ?_
      dsimp only [L2.tFld, L2.tVar, gcxOf, L2.cxOf]
      refine ⟨_, rfl, t, _, dx, _, _, rfl, e02 _ _ h1, T.cl_Table, T.n_Table_columns, by rfl, ct2, rfl, ⟨_, Same.tup e02 h2⟩, ?_⟩
      refine gfor_it (walk_tup (xs := cols.map V.str)) (fun j ys σ H' => ∃ o2, σ = [some (.ref t), some (.str r.1), o2] ∧ Same H1 H' ∧ ys.length = (itR cols (rows.take i)).length + (itC r (cols.take j)).length)
        ⟨o2, rfl, e2, by rw [hys]; rfl⟩ (fun j ys σ H' _ ⟨_, _, e, _⟩ => Same.tup (e1.trans e) h2) ?_ ?_
      · rintro j v ys σ H0 H' hj ⟨o2, rfl, e3, hys⟩ ⟨rfl, hv⟩
        obtain ⟨c, hc1, rfl⟩ := get_map_str hv
        have hjl : j < cols.length := (List.getElem?_eq_some_iff.mp hc1).1
        have e03 := e1.trans e3
        obtain ⟨kvs, k1, k2, _⟩ := (Same.rows e03 h3).opn
        obtain ⟨a, g1, g2⟩ := (Same.rows e03 h3).get k1 ho.nd hrm
        have hfld : H' t = some (.ins (ga K "Table") dx [("columns", .ref ct2), ("row_of", .ref rd)]) := e03 _ _ h1
        dsimp only [L2.gName, tGThen, List.set, tGIf, L2.tB, L2.tDIn, L2.tDGet, L2.tFld, L2.tVar, tGYield, L2.tTup, L2.tCons, L2.tNil, gcxOf, L2.cxOf]
        have dg1 : DGet H' rd (.str r.1) (some (.ref a)) := .inl ⟨kvs, .inr r.1, .inl k1, rfl, g1.symm⟩
        have dg2 : DGet H' a (.str c) ((cell r.2 c).map V.str) := .inl ⟨_, .inr c, .inl g2, rfl, (cell_val r.2 c).symm⟩
        have tk : (itC r (cols.take (j + 1))).length = (itC r (cols.take j)).length + ((cell r.2 c).toList).length := by
          rw [List.take_succ, hc1]
          unfold itC
          rw [List.filterMap_append, List.length_append]
          cases h : cell r.2 c <;> simp [h]
        refine ⟨_, rfl, _, rfl, t, _, dx, _, _, rfl, hfld, T.cl_Table, T.n_Table_row_of, by rfl, _, rfl, rd, _, rfl, dg1, a, _, rfl, dg2, _, rfl, ?_⟩
        cases hce : cell r.2 c with
        | none =>
          rw [hce] at tk
          rw [if_neg (by simp)]
          exact ⟨_, rfl, e3, by rw [hys, tk]; rfl⟩
        | some x =>
          rw [hce] at tk dg2
          rw [if_pos (by rfl)]
          have hit := itR_at hr1 hc1 hce
          rw [← hys] at hit
          have hlen : ys.length < 100 := by
            have h1 := (List.getElem?_eq_some_iff.mp hit).1
            have h2 := itR_len cols rows
            have h3 := ho.le
            have h4 := hc.le
            have h5 : rows.length * cols.length ≤ 20 * 3 := Nat.mul_le_mul h3 h4
            omega
          refine ⟨hlen, _, rfl, _, rfl, _, rfl, t, _, dx, _, _, rfl, hfld, T.cl_Table, T.n_Table_row_of, by rfl, _, rfl, rd, _, rfl, dg1, _, rfl, a, _, rfl, dg2, (by show 3 ≤ sizeLine; decide), fun p hp => ⟨⟨p, _, rfl, hit, upd_same⟩, _, rfl, e3.new hp, by rw [List.length_append, hys, tk]; rfl⟩⟩
      · rintro ys σ H' ⟨o2, rfl, e3, hys⟩
        rw [List.length_map, List.take_length] at hys
        refine ⟨_, _, rfl, e3, ?_⟩
        rw [hys, List.take_succ, hr1]
        unfold itR
        rw [List.flatMap_append, List.length_append]
        simp
    · rintro ys σ H' ⟨o1, o2, rfl, e2, hys⟩
      rw [List.length_map, List.length_map, List.take_length] at hys
      exact ⟨hys, e1.trans e2⟩
end
end NS
set_option Elab.async false
set_option linter.all false
set_option maxRecDepth 100000
set_option maxHeartbeats 4000000
/-! A dict made of a generator's items, as they come: one turn. -/
namespace NS
open PySem PySem.Spec PyProof.Rows L2 He GenW
def kAt (h : Heap) (D : Addr) : List Addr := match h.get? D with
  | some o => (match o.data with
    | .dict es _ => es.toList.filterMap fun e => match e.key with
      | .ref b => some b
      | _ => none
    | _ => [])
  | none => []
theorem kfm {P : Program} {w : World} : ∀ xs : List (List Key × Addr × Value), List.filterMap ((fun e : DictEntry => match e.key with
      | .ref b => some b
      | _ => none) ∘ entryOfKey (tupleKind (mixKind P w))) xs = xs.map (·.2.1)
  | [] => rfl
  | q :: r => by
    rw [List.filterMap_cons, List.map_cons, ← kfm r]
    rfl
theorem kAt_of {P : Program} {w : World} {h : Heap} {D : Addr} {xs : List (List Key × Addr × Value)} (x : h.DictOfH (tupleKind (mixKind P w)) D xs) : kAt h D = xs.map (·.2.1) := by
  obtain ⟨o, es, ep, h1, h2, h3, h4, _⟩ := x
  unfold kAt
  rw [h1]
  dsimp only
  rw [h3]
  dsimp only
  rw [h4, List.filterMap_map]
  exact kfm xs
def own2 (D C : Addr) : Own where
  f := fun h => D :: C :: kAt h D
  st := fun h h' k => by
    have := k D (List.mem_cons_self ..)
    unfold kAt
    rw [this]
structure TS' (P : Program) (w : World) (D C : Addr) (kvs : List (List Key × V)) (h : Heap) : Prop where
  ex : ∃ (xs : List (List Key × Addr × Value)) (Hk : Hp) (m : Str → Option Value), h.DictOfH (tupleKind (mixKind P w)) D xs ∧ h.Ns C m ∧ KT Hk kvs xs ∧
    ∀ b u, Hk b = some u → b ∈ xs.map (·.2.1) ∧ C < b ∧ ∃ (ks : List Key) (its : List Value), u = .tup (ks.map kV) ∧ ks.length ≤ sizeLine ∧ Vals (ks.map kV) its ∧ h.IsTuple b its.toArray
theorem KT.memK {H : Hp} {kvs : List (List Key × V)} {xs : List (List Key × Addr × Value)} (r : KT H kvs xs) : ∀ q ∈ xs, ∃ p ∈ kvs, p.1 = q.1 ∧ H q.2.1 = some (.tup (p.1.map kV)) ∧ RelV p.2 q.2.2 := by
  induction r with
  | nil => intro q hq; cases hq
  | @cons p q ps qs h t ih =>
    intro y hy
    rcases List.mem_cons.mp hy with e | hy
    · subst e
      exact ⟨p, List.mem_cons_self .., h⟩
    · obtain ⟨p', a, b⟩ := ih y hy
      exact ⟨p', List.mem_cons_of_mem _ a, b⟩
theorem KT.only {H H' : Hp} {kvs : List (List Key × V)} {xs : List (List Key × Addr × Value)} (r : KT H kvs xs) (h : ∀ b ∈ xs.map (·.2.1), H' b = H b) : KT H' kvs xs := by
  induction r with
  | nil => exact .nil
  | @cons p q ps qs hh t ih =>
    refine .cons ⟨hh.1, ?_, hh.2.2⟩ (ih fun b hb => h b (List.mem_cons_of_mem _ hb))
    rw [h q.2.1 (List.mem_cons_self ..)]
    exact hh.2.1
section
variable {P : Program} {w : World} {D C : Addr} {kvs : List (List Key × V)} {h h' : Heap}
theorem TS'.keeps (x : TS' P w D C kvs h) (k : ∀ b ∈ (own2 D C).f h, h'.get? b = h.get? b) : TS' P w D C kvs h' := by
  obtain ⟨xs, Hk, m, d, n, r, t⟩ := x.ex
  have hk := kAt_of d
  have kD := k D (List.mem_cons_self ..)
  have kC := k C (List.mem_cons_of_mem _ (List.mem_cons_self ..))
  have kK : ∀ b ∈ xs.map (·.2.1), h'.get? b = h.get? b := fun b hb => k b (List.mem_cons_of_mem _ (List.mem_cons_of_mem _ (by rw [hk]; exact hb)))
  refine ⟨xs, Hk, m, ?_, n.at' fun o e => kC.trans e, r, fun b u e => ?_⟩
  · obtain ⟨o, es, ep, h1, h2, h3, h4, h5, h6⟩ := d
    refine ⟨o, es, ep, kD.trans h1, h2, h3, h4, fun q hq => ?_, h6⟩
    obtain ⟨o2, its, n2, q1, q2⟩ := h5 q hq
    exact ⟨o2, its, n2, (kK q.2.1 (List.mem_map_of_mem hq)).trans q1, q2⟩
  · obtain ⟨a1, a2, ks, its, a3, a4, a5, o, a6, a7⟩ := t b u e
    exact ⟨a1, a2, ks, its, a3, a4, a5, o, (kK b a1).trans a6, a7⟩
/-- a key and its value more -/
theorem TS'.put {xs : List (List Key × Addr × Value)} {Hk : Hp} {m' : Str → Option Value} {ks : List Key} {T : Addr} {its : List Value} {v : V} {u : Value} {h6 : Heap}
    (d : h.DictOfH (tupleKind (mixKind P w)) D xs) (r : KT Hk kvs xs)
    (t : ∀ b u, Hk b = some u → b ∈ xs.map (·.2.1) ∧ C < b ∧ ∃ (ks : List Key) (its : List Value), u = .tup (ks.map kV) ∧ ks.length ≤ sizeLine ∧ Vals (ks.map kV) its ∧ h.IsTuple b its.toArray)
    (hT : ∀ q ∈ xs, q.2.1 ≠ T) (hCT : C < T) (hDC : D < C) (hv : Vals (ks.map kV) its) (hks : ks.length ≤ sizeLine) (ht : h.IsTuple T its.toArray) (rv : RelV v u)
    (d6 : h6.DictOfH (tupleKind (mixKind P w)) D (storedH xs ks T u)) (n6 : h6.Ns C m') (hs : Heap.SameBut D h h6) : TS' P w D C (putK kvs ks v) h6 ∧ ∀ b ∈ kAt h6 D, b ∈ kAt h D ∨ b = T := by
  have hT0 : Hk T = none := by
    cases e : Hk T with
    | none => rfl
    | some u =>
      obtain ⟨a1, _⟩ := t T u e
      obtain ⟨q, hq, e2⟩ := List.mem_map.mp a1
      exact absurd e2 (hT q hq)
  have r1 : KT (upd Hk T (.tup (ks.map kV))) kvs xs := KT.keeps r fun b ys e => by rw [upd_ne (ne_of_none e hT0)]; exact e
  have r2 := r1.put ks (b := T) upd_same rv
  have mem : ∀ b ∈ (storedH xs ks T u).map (·.2.1), b ∈ xs.map (·.2.1) ∨ b = T := fun b hb => by
    unfold storedH at hb
    split at hb
    · rw [List.map_map] at hb
      obtain ⟨q, hq, e⟩ := List.mem_map.mp hb
      refine .inl (List.mem_map.mpr ⟨q, hq, ?_⟩)
      rw [← e]
      show q.2.1 = (putAt ks u q).2.1
      unfold putAt
      split <;> rfl
    · rw [List.map_append] at hb
      rcases List.mem_append.mp hb with hb | hb
      · exact .inl hb
      · exact .inr (List.mem_singleton.mp hb)
  have same : ∀ b, D < b → h6.get? b = h.get? b := fun b hb => hs.2 b (Nat.ne_of_gt hb)
  refine ⟨⟨_, fun b => if b ∈ (storedH xs ks T u).map (·.2.1) then upd Hk T (.tup (ks.map kV)) b else none, m', d6, n6, KT.only r2 fun b hb => if_pos hb, fun b z e => ?_⟩, fun b hb => ?_⟩
  · dsimp only at e
    split at e
    · rename_i hb
      refine ⟨hb, ?_⟩
      by_cases e2 : b = T
      · subst e2
        rw [upd_same] at e
        cases e
        obtain ⟨o, a6, a7⟩ := ht
        exact ⟨hCT, ks, its, rfl, hks, hv, o, (same _ (Nat.lt_trans hDC hCT)).trans a6, a7⟩
      · rw [upd_ne e2] at e
        obtain ⟨a1, a2, ks', its', a3, a4, a5, o, a6, a7⟩ := t b z e
        exact ⟨a2, ks', its', a3, a4, a5, o, (same b (Nat.lt_trans hDC a2)).trans a6, a7⟩
    · cases e
  · rw [kAt_of d6] at hb
    rw [kAt_of d]
    exact mem b hb
theorem TS'.own (x : TS' P w D C kvs h) : ∀ b ∈ (own2 D C).f h, (b = D ∨ b = C ∨ C < b) ∧ ∃ o, h.get? b = some o ∧ ∀ v, o.data ≠ .cell v := by
  obtain ⟨xs, Hk, m, d, n, r, t⟩ := x.ex
  intro b hb
  rcases List.mem_cons.mp hb with e | hb
  · subst e
    obtain ⟨o, es, ep, h1, h2, h3, _⟩ := d
    exact ⟨.inl rfl, o, h1, fun v e => by rw [h3] at e; cases e⟩
  rcases List.mem_cons.mp hb with e | hb
  · subst e
    obtain ⟨o, es, ep, h1, h2, _⟩ := n
    exact ⟨.inr (.inl rfl), o, h1, fun v e => by rw [h2] at e; cases e⟩
  · rw [kAt_of d] at hb
    obtain ⟨q, hq, e⟩ := List.mem_map.mp hb
    subst e
    obtain ⟨p, _, _, hp, _⟩ := KT.memK r q hq
    obtain ⟨_, a2, ks, its, _, _, _, o, a6, _, n2, a7⟩ := t _ _ hp
    exact ⟨.inr (.inr a2), o, a6, fun v e => by rw [a7] at e; cases e⟩
end
end NS
set_option Elab.async false
set_option linter.all false
set_option maxRecDepth 100000
set_option maxHeartbeats 4000000
/-! A dict made of a generator's items: the turn of the comprehension. -/
namespace NS
open PySem PySem.Spec PyProof.Rows L2 He GenW
open Sem (wp)
theorem runs_hsz {M : Model} {Γ : PySem.Ctx} {p : Pos} {t : Sem PySem.Fin} {fs : List Frame} {s s' : Shared} {e : End} (h : Runs M Γ p t fs s e s') : s.heap.objs.size ≤ s'.heap.objs.size := by
  induction h <;> (try simp only [Shared.setGen, Heap.size_push, Heap.size_update] at *) <;> try omega
theorem returns_hsz {M : Model} {Γ : PySem.Ctx} {p : Pos} {s s' : Shared} {r : Result} (h : Returns M Γ p s r s') : s.heap.objs.size ≤ s'.heap.objs.size := runs_hsz h
theorem wakes_hsz {M : Model} {Γ : PySem.Ctx} {p : Pos} {g : Nat} {r : Resume} {s s' : Shared} {res : GenResult} (h : Wakes M Γ p g r s res s') : s.heap.objs.size ≤ s'.heap.objs.size := by
  unfold Wakes at h
  split at h
  · exact h.elim
  · split at h
    · obtain ⟨e₁, s₁, hr, _, _, rfl⟩ := h
      have q := runs_hsz hr
      exact q
    · rw [h.2]; exact Nat.le_refl _
    · rw [h.2]; exact Nat.le_refl _
  · obtain ⟨e₁, s₁, hr, _, _, rfl⟩ := h
    have q := runs_hsz hr
    exact q
  · rw [h.2]; exact Nat.le_refl _
  · rw [h.2]; exact Nat.le_refl _
theorem wp_hsz {α : Type} (M : Model) (Γ : PySem.Ctx) (n : Nat) (t : Sem α) : ∀ (Q : α → Pos → Shared → Prop) (E : Value → Pos → Shared → Prop) (p : Pos) (s : Shared), n ≤ s.heap.objs.size → wp M Γ t Q E p s →
    wp M Γ t (fun a p' s' => n ≤ s'.heap.objs.size ∧ Q a p' s') (fun e p' s' => n ≤ s'.heap.objs.size ∧ E e p' s') p s := by
  induction t with
  | pure a => intro Q E p s hn h; exact ⟨hn, h⟩
  | raise e => intro Q E p s hn h; exact ⟨hn, h⟩
  | unsupported _ => intro Q E p s _ h; exact h
  | finish _ => intro Q E p s _ h; exact h
  | rule _ k ih => intro Q E p s hn h; exact ih () Q E p s hn h
  | «at» p' k ih => intro Q E p s hn h; exact ih () Q E p' s hn h
  | load a _ k ih => intro Q E p s hn h; obtain ⟨o, ho, h⟩ := h; exact ⟨o, ho, ih o Q E p s hn h⟩
  | update a _ f k ih => intro Q E p s hn h; exact ⟨h.1, ih () Q E p _ (by show n ≤ (s.heap.update a f).objs.size; rw [Heap.size_update]; exact hn) h.2⟩
  | loadIfAlive a k ih => intro Q E p s hn h; exact ih _ Q E p s hn h
  | point _ k ih => intro Q E p s hn h; exact ih () Q E p s hn h
  | register _ _ => intro Q E p s _ h; exact h
  | alloc o k ih => intro Q E p s hn h; exact ih _ Q E p _ (by show n ≤ (s.heap.push o).objs.size; rw [Heap.size_push]; omega) h
  | fresh k ih => intro Q E p s hn h; exact ih _ Q E p _ hn h
  | ask k ih => intro Q E p s hn h; exact ih _ Q E p s hn h
  | choose src m k ih => intro Q E p s hn h; exact ⟨h.1, ih _ Q E p _ hn h.2⟩
  | os q _ k ih => intro Q E p s hn h; exact ih _ Q E p _ hn h
  | call c hd _ _ k ih => intro Q E p s hn h; obtain ⟨r, s', hr, h⟩ := h; exact ⟨r, s', hr, ih r Q E p s' (Nat.le_trans hn (returns_hsz hr)) h⟩
  | handled own k ih => intro Q E p s hn h; exact ih _ Q E p s hn h
  | genState g k ih => intro Q E p s hn h; obtain ⟨st, hs, h⟩ := h; exact ⟨st, hs, ih _ Q E p s hn h⟩
  | newGen c k ih => intro Q E p s hn h; exact ih _ Q E p _ hn h
  | resume g r _ k ih => intro Q E p s hn h; obtain ⟨res, s', hw, h⟩ := h; exact ⟨res, s', hw, ih res Q E p s' (Nat.le_trans hn (wakes_hsz hw)) h⟩
  | yield _ _ _ _ => intro Q E p s _ h; exact h
  | stack k ih => intro Q E p s hn h; exact ih _ Q E p s hn h
  | fork _ _ => intro Q E p s _ h; exact h
  | thread k ih => intro Q E p s hn h; exact ih _ Q E p s hn h
  | await _ _ _ _ _ => intro Q E p s _ h; exact h
/-- the heap never shrinks -/
theorem wpAny_hsz {α : Type} {M : Model} {A : Around} {s : Shared} {t : Sem α} {Q : α → Shared → Prop} {E : Value → Shared → Prop} {n : Nat} (hn : n ≤ s.heap.objs.size)
    (h : wpAny M A t (fun a s' => n ≤ s'.heap.objs.size → Q a s') (fun e s' => n ≤ s'.heap.objs.size → E e s') s) : wpAny M A t Q E s :=
  wpAny_mono (fun Γ p hΓ => wp_hsz M Γ n t _ _ p s hn (h Γ p hΓ) : wpAny M A t (fun a s' => n ≤ s'.heap.objs.size ∧ (n ≤ s'.heap.objs.size → Q a s')) (fun e s' => n ≤ s'.heap.objs.size ∧ (n ≤ s'.heap.objs.size → E e s')) s)
    (fun _ _ x => x.2 x.1) fun _ _ x => x.2 x.1
theorem dh_keeps {P : Program} {w : World} {D : Addr} {xs : List (List Key × Addr × Value)} {h h' : Heap} (d : h.DictOfH (tupleKind (mixKind P w)) D xs) (kD : ∀ o, h.get? D = some o → h'.get? D = some o)
    (kK : ∀ b ∈ xs.map (·.2.1), ∀ o, h.get? b = some o → h'.get? b = some o) : h'.DictOfH (tupleKind (mixKind P w)) D xs := by
  obtain ⟨o, es, ep, h1, h2, h3, h4, h5, h6⟩ := d
  refine ⟨o, es, ep, kD _ h1, h2, h3, h4, fun q hq => ?_, h6⟩
  obtain ⟨o2, its, n2, q1, q2⟩ := h5 q hq
  exact ⟨o2, its, n2, kK q.2.1 (List.mem_map_of_mem hq) _ q1, q2⟩
theorem letgo_gen {P : Program} {w : World} {A : Around} {E : Value → Shared → Prop} {s : Shared} {a : Addr} {g : Nat} {v : Value} {es : List Expr} {ck : Nat} {pos : Pos} {Q : Unit → Shared → Prop} (hg : s.heap.IsGen a g) (h : Q () s) :
    wpAny (model P w) A (letOwnedTupleGo (.Tuple es ck pos) (.ref a) v) Q E s := by
  obtain ⟨o, nm, qn, ho, hc, hd, hs⟩ := hg
  unfold letOwnedTupleGo
  cases v with
  | ref b =>
    dsimp only
    refine wpAny_bind (wpAny_load ho ?_)
    rw [hc, hd]
    dsimp only
    rw [if_neg (by
      intro e
      have := (Bool.and_eq_true _ _).mp e
      exact absurd this.1 (by decide))]
    exact wpAny_pure h
  | _ => exact wpAny_pure h
theorem dict_turn {P : Program} {w : World} {A : Around} {s : Shared} {ce : Env} {D a T : Addr} {g : Nat} {p c x : Str} {us : Array Value} {kvs : List (List Key × V)} {n1 n2 n3 : Str} {p1 p2 p3 q1 q2 q3 kpos tpos : Pos} {ck lk : Nat} {Q : Unit → Shared → Prop} {E1 E2 E3 E4 E5 E6 : Value → Shared → Prop}
    (hh : A.handled = none) (hu : A.units < cLine) (hk : ce.scope.kind = .function) (l1 : ce.kindOf n1 = some .local) (l2 : ce.kindOf n2 = some .local) (l3 : ce.kindOf n3 = some .local)
    (hp : (ce.scope.kind == .class || (ce.scope.kind == .module && ce.locals != ce.globals)) = false)
    (n12 : n1 ≠ n2) (n13 : n1 ≠ n3) (n23 : n2 ≠ n3) (g1 : (n1 == ("__debug__" : Str)) = false) (g2 : (n2 == ("__debug__" : Str)) = false) (g3 : (n3 == ("__debug__" : Str)) = false)
    (hg : s.heap.IsGen a g) (X : TS' P w D ce.locals kvs s.heap) (hDC : D < ce.locals) (ht : s.heap.IsTuple T us) (hv : Vals [.str p, .str c, .str x] us.toList) (hkl : kvs.length < sizeLine)
    (h : ∀ h6 tk, TS' P w D ce.locals (putK kvs [.inr p, .inr c] (.str x)) h6 → (∀ b o, b ≠ D → b ≠ ce.locals → s.heap.get? b = some o → h6.get? b = some o) →
      (∀ b ∈ kAt h6 D, b ∈ kAt s.heap D ∨ s.heap.objs.size ≤ b) → Q () { s with heap := h6, toks := tk }) :
    wpAny (model P w) A (letOwnedTupleGo (.Tuple [.Name n1 p1, .Name n2 p2, .Name n3 p3] ck tpos) (.ref a) (.ref T)) (fun _ s1' => wpAny (model P w) A (assign (.Tuple [.Name n1 p1, .Name n2 p2, .Name n3 p3] ck tpos) ce (.ref T)) (fun _ s2 =>
      wpAny (model P w) A (forIn ([] : List Expr) true fun c r => if r = true then do let ok ← isTrue c ce (eval c ce); pure (ForInStep.yield ok) else pure (ForInStep.yield r)) (fun ok s3 =>
        if ok = true then wpAny (model P w) A (eval (.Tuple [.Name n1 q1, .Name n2 q2] lk kpos) ce) (fun kv s4 => wpAny (model P w) A (eval (.Name n3 q3) ce) (fun vv s5 => wpAny (model P w) A (dictSet D kv vv) Q E1 s5) E2 s4) E3 s3 else Q () s3) E4 s2) E5 s1') E6 s := by
  refine letgo_gen hg ?_
  have hsz : us.size = 3 := by rw [← Array.length_toList, ← hv.length]; rfl
  obtain ⟨v1, v2, v3, hul, r1, r2, r3⟩ : ∃ v1 v2 v3, us.toList = [v1, v2, v3] ∧ RelV (.str p) v1 ∧ RelV (.str c) v2 ∧ RelV (.str x) v3 := by
    generalize us.toList = ul at hv
    cases hv with
    | cons r1 t1 => cases t1 with
      | cons r2 t2 => cases t2 with
        | cons r3 t3 => cases t3; exact ⟨_, _, _, rfl, r1, r2, r3⟩
  have hown := X.own
  obtain ⟨xs, Hk, m, d, n, r, t⟩ := X.ex
  have hxl : xs.length ≤ sizeLine := by
    have := Paired.length r
    omega
  have kxs : ∀ q ∈ xs, ce.locals < q.2.1 ∧ q.2.1 < s.heap.objs.size := fun q hq => by
    obtain ⟨pp, _, _, hp2, _⟩ := KT.memK r q hq
    obtain ⟨_, a2, ks, its, _, _, _, o, a6, _⟩ := t _ _ hp2
    exact ⟨a2, Heap.lt_size a6⟩
  have hCs : ce.locals < s.heap.objs.size := n.lt
  refine wpAny_hsz (n := s.heap.objs.size) (Nat.le_refl _) (assign_Tuple_tuple hh ht hsz.symm rfl fun h1 e1 => ?_)
  rw [hul]
  show wpAny _ _ (assignInOrder [fun v => assign (.Name n1 p1) ce v, fun v => assign (.Name n2 p2) ce v, fun v => assign (.Name n3 p3) ce v] [v1, v2, v3]) _ _ _
  have k1 : ∀ b o, s.heap.get? b = some o → h1.get? b = some o := fun b o e => e1 b o (Nat.ne_of_lt (Heap.lt_size e)) e
  have nn1 : h1.Ns ce.locals m := n.keeps k1
  unfold assignInOrder
  refine wpAny_bind (wpAny_holding (wpAny_assign_Name (wpAny_storeName_local l1 nn1 (fun h2 nn2 s2 => ?_) hp)))
  unfold assignInOrder
  refine wpAny_bind (wpAny_holding (wpAny_assign_Name (wpAny_storeName_local l2 nn2 (fun h3 nn3 s3 => ?_) hp)))
  unfold assignInOrder
  refine wpAny_bind (wpAny_holding (wpAny_assign_Name (wpAny_storeName_local l3 nn3 (fun h4 nn4 s4 => ?_) hp)))
  unfold assignInOrder
  refine wpAny_pure ?_
  have k4 : ∀ b o, b ≠ ce.locals → s.heap.get? b = some o → h4.get? b = some o := fun b o hb e => (s4.2 b hb).trans ((s3.2 b hb).trans ((s2.2 b hb).trans (k1 b o e)))
  intro z4
  have z4 : s.heap.objs.size ≤ h4.objs.size := z4
  refine wpAny_of_eq (a := true) rfl ?_
  rw [if_pos rfl]
  refine wpAny_Tuple ?_
  refine wpAny_items_cons (wpAny_Name (wpAny_loadName_local hk l1 nn4 (v := v1) (by rw [if_neg n13, if_neg n12, if_pos rfl]) ?_) g1)
  refine wpAny_items_cons (wpAny_Name (wpAny_loadName_local hk l2 nn4 (v := v2) (by rw [if_neg n23, if_pos rfl]) ?_) g2)
  refine wpAny_items_nil ⟨by show 2 ≤ sizeLine; decide, ?_⟩
  have k5 : ∀ b o, b ≠ ce.locals → s.heap.get? b = some o → (h4.push { cls := .type "tuple", data := .seq [v1, v2].toArray }).get? b = some o := fun b o hb e => Heap.get?_push_of_some _ (k4 b o hb e)
  have nn5 : (h4.push { cls := .type "tuple", data := .seq [v1, v2].toArray }).Ns ce.locals _ := nn4.push _
  have hT5 : (h4.push { cls := .type "tuple", data := .seq [v1, v2].toArray }).IsTuple h4.objs.size [v1, v2].toArray := ⟨_, Heap.get?_push_size _ rfl, rfl, _, rfl⟩
  refine wpAny_Name (wpAny_loadName_local hk l3 nn5 (v := v3) (by rw [if_pos rfl]) ?_) g3
  generalize h4.push { cls := .type "tuple", data := .seq [v1, v2].toArray } = h5 at k5 nn5 hT5
  have d5 : h5.DictOfH (tupleKind (mixKind P w)) D xs := dh_keeps d (fun o e => k5 D o (Nat.ne_of_lt hDC) e) fun b hb o e => by
    obtain ⟨q, hq, e2⟩ := List.mem_map.mp hb
    exact k5 b o (by rw [← e2]; exact Nat.ne_of_gt (kxs q hq).1) e
  have t5 : ∀ b u, Hk b = some u → b ∈ xs.map (·.2.1) ∧ ce.locals < b ∧ ∃ (ks : List Key) (its : List Value), u = .tup (ks.map kV) ∧ ks.length ≤ sizeLine ∧ Vals (ks.map kV) its ∧ h5.IsTuple b its.toArray := fun b u e => by
    obtain ⟨a1, a2, ks, its, a3, a4, a5, o, a6, a7⟩ := t b u e
    exact ⟨a1, a2, ks, its, a3, a4, a5, o, k5 b o (Nat.ne_of_gt a2) a6, a7⟩
  have hv5 : Vals ([Sum.inr p, Sum.inr c].map kV) [v1, v2] := .cons r1 (.cons r2 .nil)
  have key5 : (tupleKind (mixKind P w)).is h5 [Sum.inr p, Sum.inr c] h4.objs.size := by
    obtain ⟨o, ho, hc, nn, hd⟩ := hT5
    exact ⟨o, _, nn, ho, hc, hd, items_are hv5⟩
  refine wpAny_dictSet_heap (knd := tupleKind (mixKind P w)) hu key5 d5 (fun h6 d6 s6 => ?_) hxl
  have hCD : ce.locals ≠ D := Nat.ne_of_gt hDC
  obtain ⟨y1, y2⟩ := TS'.put d5 r t5 (fun q hq e => absurd (kxs q hq).2 (by rw [e]; exact Nat.not_lt.mpr z4)) (Nat.lt_of_lt_of_le hCs z4) hDC hv5 (by show 2 ≤ sizeLine; decide) hT5 r3 d6 (nn5.sameBut s6 hCD) s6
  refine h h6 _ y1 (fun b o hD hC e => (s6.2 b hD).trans (k5 b o hC e)) fun b hb => ?_
  rcases y2 b hb with q | q
  · refine .inl ?_
    rw [kAt_of d5] at q
    rw [kAt_of d]
    exact q
  · exact .inr (by rw [q]; exact z4)
end NS
set_option Elab.async false
set_option linter.all false
set_option maxRecDepth 100000
set_option maxHeartbeats 4000000
/-! A dict comprehension over a generator of our own. -/
namespace NS
open PySem PySem.Spec PyProof.Rows L2 He GenW
def putI (l : List (List Key × V)) (it : Str × Str × Str) : List (List Key × V) := putK l [.inr it.1, .inr it.2.1] (.str it.2.2)
def putAll (items : List (Str × Str × Str)) : List (List Key × V) := items.foldl putI []
theorem putAll_len : ∀ (items : List (Str × Str × Str)) (l : List (List Key × V)), (items.foldl putI l).length ≤ l.length + items.length
  | [], l => by simp
  | it :: r, l => by
    have h1 := putAll_len r (putI l it)
    have h2 : (putI l it).length ≤ l.length + 1 := length_putK ..
    rw [List.foldl_cons, List.length_cons]
    omega
theorem putAll_take {items : List (Str × Str × Str)} {i : Nat} {it : Str × Str × Str} (h : items[i]? = some it) : putAll (items.take (i + 1)) = putI (putAll (items.take i)) it := by
  unfold putAll
  rw [List.take_succ, h, List.foldl_append]
  rfl
abbrev TG2 := L2.St → Hp → (List (Str × Str × Str) → Hp → Prop) → Prop
/-- an expression whose value is a generator of our own that has not begun -/
structure PGen2 (X : Cx) (k N : Nat) (e : Expr) (tg : TG2) : Prop where
  run : ∀ (pins : List (Addr × Obj)) (s : Shared) (σ : L2.St) (H : Hp) (Q : List (Str × Str × Str) → Hp → Prop), Inv X pins σ H s → tg σ H Q → wpAny (model X.prog X.w) X.A (eval e X.env)
    (fun u s' => ∃ H1 sc items, Inv X pins σ H1 sc ∧ GM X.prog X.w k X.stack H1 sc N items u s' ∧ Q items H1) X.xe s
section
variable {X : Cx} {k N : Nat} {f C : Addr} {fd : FuncData} {m : Str} {pos pos' apos : Pos} {o : Expr} {ta : TE} {sp : List V → Hp → List (Str × Str × Str) → Prop}
def tMethG2 (C : Addr) (m : Str) (sp : List V → Hp → List (Str × Str × Str) → Prop) (ta : TE) : TG2 := fun σ H Q => ta σ H fun x H1 => ∃ a dx fs items, x = .ref a ∧ H1 a = some (.ins C dx fs) ∧ fs.lookup m = none ∧ sp [.ref a] H1 items ∧ Q items H1
theorem pgen2_meth0 {pl : Sem Bool} {ps : List Str} (he : PE X o ta) (c : Cls X.K C) (hm : Meth X.K C m f) (F : GFn2 X.prog X.w X.K X.mg X.base k N f fd ps sp) (hb : Binds X.K fd ps []) (hr : Room k X.A)
    (ht : eval (.Call (.Attribute o m apos) [] [] pos') X.env = (do
      let ov ← eval o X.env
      standAt apos.atName
      let (f, first) ← holding [ov] (getMethod ov m pl)
      callWith pos' f first (backTo pos' (starEach [] X.env)) (backToKw pos' (keywordEach [] X.env))) := by rfl) :
    PGen2 X k N (.Call (.Attribute o m apos) [] [] pos') (tMethG2 C m sp ta) := by
  refine ⟨fun pins s σ H Q I h => ?_⟩
  refine PySem.W.methodCall_KW (pl := pl) (thn (he.run pins s σ H _ I h) fun u s1 ⟨x, H1, I1, rx, a, dx, fs, items, ex, ea, l, hs, q⟩ => ?_) ht
  subst ex
  obtain rfl : u = Value.ref a := rx
  refine getmeth_ok I1 ea c hm l ?_
  have hl := F.len _ _ _ hs
  refine PySem.W.callWith_K0 (first := [.ref a]) I1.kIn hm.kp (wpAny_call (codeAny_mono (F.run X.A X.stack s1 H1 ⟨[.ref a], []⟩ [.ref a] [.ref a] items hr I1.env0 (by
    have := hb s1 [.ref a] I1.kIn hl
    simpa using this) (.cons rfl .nil) hs) fun r s' hq => ?_))
  cases r with
  | error e => exact False.elim hq
  | ok fl =>
    cases fl with
    | ret u => exact ⟨H1, s1, items, I1, hq, q⟩
    | next => exact False.elim hq
    | brk => exact False.elim hq
    | cont => exact False.elim hq
end
section
variable {X : Cx}
/-- the generator has ended: the dict and its keys are taken in -/
theorem taken {pins : List (Addr × Obj)} {σ : L2.St} {H H' : Hp} {sc s1 : Shared} {D C : Addr} {kvs : List (List Key × V)} {s2 : Shared} (I : Inv X pins σ H sc) (hD : sc.heap.objs.size ≤ D) (hDC : D < C) (hl : kvs.length ≤ sizeLine)
    (x : TS' X.prog X.w D C kvs s1.heap) (un : Un (frs X.stack) [] H H' sc.heap s1.heap) (hok : HOk X.prog X.w H' s1.heap) (sm : Same H H') (hn : ∀ b ∈ (own2 D C).f s1.heap, H' b = none)
    (hos : s2.os = sc.os) (hb : AllBare s2.gens) (kp : ∀ b o, b ≠ C → s1.heap.get? b = some o → s2.heap.get? b = some o) :
    ∃ H'', Inv X pins σ H'' s2 ∧ Same H H'' ∧ H'' D = some (.dT kvs) := by
  obtain ⟨xs, Hk, m, d, n, r, t⟩ := x.ex
  have hkA := kAt_of d
  have hD0 : H' D = none := hn D (List.mem_cons_self ..)
  have hC0 : H' C = none := hn C (List.mem_cons_of_mem _ (List.mem_cons_self ..))
  have hK0 : ∀ b u, Hk b = some u → H' b = none ∧ C < b := fun b u e => by
    obtain ⟨a1, a2, _⟩ := t b u e
    exact ⟨hn b (List.mem_cons_of_mem _ (List.mem_cons_of_mem _ (by rw [hkA]; exact a1))), a2⟩
  have hKD : Hk D = none := by
    cases e : Hk D with
    | none => rfl
    | some u => exact absurd (hK0 D u e).2 (Nat.not_lt.mpr (Nat.le_of_lt hDC))
  generalize eH : (fun b => if b = D then some (HO.dT kvs) else match Hk b with
    | some u => some u
    | none => H' b : Hp) = H''
  have vD : H'' D = some (.dT kvs) := by rw [← eH]; exact if_pos rfl
  have vK : ∀ b u, Hk b = some u → H'' b = some u := fun b u e => by
    have hb : b ≠ D := fun z => by rw [z, hKD] at e; cases e
    rw [← eH]
    dsimp only
    rw [if_neg hb, e]
  have vO : ∀ b, b ≠ D → Hk b = none → H'' b = H' b := fun b hb e => by
    rw [← eH]
    dsimp only
    rw [if_neg hb, e]
  have vS : ∀ b u, H' b = some u → H'' b = some u := fun b u e => by
    have hb : b ≠ D := fun z => by rw [z, hD0] at e; cases e
    have hk : Hk b = none := by
      cases e2 : Hk b with
      | none => rfl
      | some u2 => rw [(hK0 b u2 e2).1] at e; cases e
    rw [vO b hb hk]
    exact e
  have old : ∀ b o, sc.heap.get? b = some o → b ≠ D ∧ b ≠ C ∧ Hk b = none := fun b o e => by
    have hlt : b < D := Nat.lt_of_lt_of_le (Heap.lt_size e) hD
    refine ⟨Nat.ne_of_lt hlt, Nat.ne_of_lt (Nat.lt_trans hlt hDC), ?_⟩
    cases e2 : Hk b with
    | none => rfl
    | some u2 => exact absurd (Nat.lt_trans hDC (hK0 b u2 e2).2) (Nat.not_lt.mpr (Nat.le_of_lt hlt))
  refine ⟨H'', I.call' (ch := []) hos ⟨fun b o e n hf hx => ?_, fun b o e n hf hx => ?_, fun b o e n hx => ?_, fun b o e hx => ?_, fun b ys e => ?_, fun b o u e => ?_, fun b ps e => ?_⟩ (fun b u e => ?_) hb (fun b z => by simp at z), fun b u e => vS b u (sm b u e), vD⟩
  · exact kp b o (old b o e).2.1 (un.keep b o e n hf hx)
  · obtain ⟨sl, e1⟩ := un.slot b o e n hf hx
    exact ⟨sl, kp b _ (old b o e).2.1 e1⟩
  · rw [vO b (old b o e).1 (old b o e).2.2]
    exact un.free b o e n hx
  · obtain ⟨o', e1⟩ := un.there b o e hx
    exact ⟨o', kp b _ (old b o e).2.1 e1⟩
  · exact vS b _ (un.tups b ys e)
  · exact vS b _ (un.frzs b o u e)
  · obtain ⟨more, e1⟩ := un.tbls b ps e
    exact ⟨more, vS b _ e1⟩
  · by_cases hbD : b = D
    · subst hbD
      rw [vD] at e
      cases e
      have kxs : ∀ q ∈ xs, C < q.2.1 := fun q hq => by
        obtain ⟨pp, _, _, hp2, _⟩ := KT.memK r q hq
        exact (hK0 _ _ hp2).2
      obtain ⟨o, es, ep, h1, h2, h3, h4, h5, h6⟩ := d
      refine ⟨hl, ?_, xs, KT.only r fun c hc => ?_, o, es, ep, kp _ _ (Nat.ne_of_lt hDC) h1, h2, h3, h4, h6⟩
      · have := I.big
        exact beq_eq_false_iff_ne.mpr (Nat.ne_of_gt (Nat.lt_of_lt_of_le this hD))
      · obtain ⟨q, hq, e2⟩ := List.mem_map.mp hc
        obtain ⟨pp, _, _, hp2, _⟩ := KT.memK r q hq
        rw [← e2, hp2]
        exact vK _ _ hp2
    · cases e2 : Hk b with
      | some u2 =>
        have := vK b u2 e2
        rw [this] at e
        cases e
        obtain ⟨a1, a2, ks, its, a3, a4, a5, o, a6, a7⟩ := t b u e2
        subst a3
        exact ⟨by rw [List.length_map]; exact a4, its, a5, o, kp b o (Nat.ne_of_gt a2) a6, a7⟩
      | none =>
        rw [vO b hbD e2] at e
        refine (hok b u e).stay (fun c v hc y => kp c v (fun z => ?_) y) (fun c y => vS c _ y) fun c ys y => vS c _ y
        subst z
        rcases hc with z | z
        · rw [← z, hC0] at e; cases e
        · rw [hC0] at z; cases z
end
end NS
set_option Elab.async false
set_option linter.all false
set_option maxRecDepth 100000
set_option maxHeartbeats 4000000
/-! A dict comprehension over a generator of our own: the rule. -/
namespace NS
open PySem PySem.Spec PyProof.Rows L2 He GenW
section
variable {X : Cx}
def tDcG (tg : TG2) : TE := fun σ H Q => tg σ H fun items H1 => items.length ≤ 100 ∧ ∀ H2 D, Same H1 H2 → H1 D = none → H2 D = some (.dT (putAll items)) → Q (.ref D) H2
theorem pe_dcg {k : Nat} {n1 n2 n3 : Str} {p1 p2 p3 q1 q2 q3 kpos tpos pos : Pos} {ck lk : Nat} {iter : Expr} {scope : Scope} {own : List (Str × Nat)} {tg : TG2} (hN : X.N.Nodup) (hi : PGen2 X k 100 iter tg) (hr : Room (k + 1) X.A) (ok : BlkOk X.N X.env.scope scope own)
    (l1 : scope.names.lookup n1 = some .local) (l2 : scope.names.lookup n2 = some .local) (l3 : scope.names.lookup n3 = some .local)
    (n12 : n1 ≠ n2) (n13 : n1 ≠ n3) (n23 : n2 ≠ n3) (g1 : (n1 == ("__debug__" : Str)) = false) (g2 : (n2 == ("__debug__" : Str)) = false) (g3 : (n3 == ("__debug__" : Str)) = false)
    (hs : ∀ x, foldedSetIterable iter X.env x = pure x := by intro _; rfl) :
    PE X (.DictComp (.Tuple [.Name n1 q1, .Name n2 q2] lk kpos) (.Name n3 q3) [⟨.Tuple [.Name n1 p1, .Name n2 p2, .Name n3 p3] ck tpos, iter, [], 0⟩] scope pos) (tDcG tg) := by
  refine ⟨fun pins s σ H Q I h => ?_⟩
  rw [arm_eval_DictComp]
  have hfree : ∀ y ∈ scope.names, y.2 = .free → ∃ c, X.env.cells.lookup y.1 = some c := fun y hy e => by
    rcases ok.free y hy e with k | k
    · exact I.ok.has _ (.inl k)
    · exact I.ok.has _ (.inr k)
  refine wpAny_comprehension_free (use := none) rfl hs (closure_ok hfree) ok.kind (fun y hy e => by rw [ok.uniq y hy, e])
    (thn (hi.run pins s σ H _ I h) fun xv s1 hx => ?_)
  obtain ⟨H1, sc, items, I1, G, hil, q⟩ := hx
  obtain ⟨a, g, c, rfl, ha1, ha2, hg, hgs, hos, hb, hlim, hkp, wake⟩ := G
  refine wpAny_pyIter_gen hg ?_
  refine wpAny_newObj_type (newEnv_comp ?_)
  have hsz : sc.heap.objs.size ≤ s1.heap.objs.size := Nat.le_of_lt (Nat.lt_of_le_of_lt ha1 ha2)
  generalize hD : s1.heap.objs.size = D
  generalize hs3 : ({ s1 with heap := s1.heap.push { cls := .type "dict", data := .dict #[] } } : Shared) = s3
  have h3 : s3.heap = s1.heap.push { cls := .type "dict", data := .dict #[] } := by rw [← hs3]
  have g3' : s3.gens = s1.gens := by rw [← hs3]
  have o3 : s3.os = s1.os := by rw [← hs3]
  have k3 : ∀ b o, s1.heap.get? b = some o → s3.heap.get? b = some o := fun b o e => by rw [h3]; exact Heap.get?_push_of_some _ e
  have I3 : Inv X pins σ H1 s3 := by
    refine I1.call' (ch := []) (o3.trans hos) (Un.kept fun b o e => k3 b o (hkp b o e)) (I1.hok.kept fun b o e => k3 b o (hkp b o e)) (by rw [g3']; exact hb) fun b z => by simp at z
  have I4 := block_start (fp := []) I3 ok hN (fun b hb => by cases hb)
  have z3 : s3.heap.objs.size = D + 1 := by rw [h3, Heap.size_push, hD]
  show codeAny _ _ (.compStart (.DictComp (.Tuple [.Name n1 q1, .Name n2 q2] lk kpos) (.Name n3 q3) [⟨.Tuple [.Name n1 p1, .Name n2 p2, .Name n3 p3] ck tpos, iter, [], 0⟩] scope pos) 0 (.ref a) (.ref D) (compEnvC scope (cellsFrom (s3.heap.objs.size + 1) scope.names (cloFrom X.env.cells scope.names [])) s3.heap.objs.size X.env))
    (compPost (model X.prog X.w) X.A X.xe none _ (.ref D) s3.heap.objs.size) { s3 with heap := pushCells (s3.heap.push { cls := .type "dict", data := .dict #[] }) scope.names }
  obtain ⟨m, hn, _⟩ := I4.loc
  have hn : (pushCells (s3.heap.push { cls := .type "dict", data := .dict #[] }) scope.names).Ns s3.heap.objs.size m := hn
  clear I4
  generalize hce : compEnvC scope (cellsFrom (s3.heap.objs.size + 1) scope.names (cloFrom X.env.cells scope.names [])) s3.heap.objs.size X.env = ce
  have cL : ce.locals = s3.heap.objs.size := by subst hce; rfl
  have cK : ce.scope.kind = .function := by subst hce; exact ok.kind
  have cl1 : ce.kindOf n1 = some .local := by subst hce; exact lookup_relabel_local l1
  have cl2 : ce.kindOf n2 = some .local := by subst hce; exact lookup_relabel_local l2
  have cl3 : ce.kindOf n3 = some .local := by subst hce; exact lookup_relabel_local l3
  have cP : (ce.scope.kind == .class || (ce.scope.kind == .module && ce.locals != ce.globals)) = false := by rw [cK]; rfl
  generalize hC : s3.heap.objs.size = C at hn cL z3
  have hDC : D < C := by omega
  generalize hs4 : ({ s3 with heap := pushCells (s3.heap.push { cls := .type "dict", data := .dict #[] }) scope.names } : Shared) = s4
  have h4 : s4.heap = pushCells (s3.heap.push { cls := .type "dict", data := .dict #[] }) scope.names := by rw [← hs4]
  rw [← h4] at hn
  have g4 : s4.gens = s1.gens := by rw [← hs4]; exact g3'
  have o4 : s4.os = sc.os := by rw [← hs4]; exact o3.trans hos
  have k34 : ∀ b o, s3.heap.get? b = some o → s4.heap.get? b = some o := fun b o e => by rw [h4]; exact pushCells_keeps _ _ _ _ (Heap.get?_push_of_some _ e)
  have k4 : ∀ b o, s1.heap.get? b = some o → s4.heap.get? b = some o := fun b o e => k34 b o (k3 b o e)
  have hDs : sc.heap.objs.size ≤ D := by rw [← hD]; exact hsz
  have haD : a < D := by rw [← hD]; exact ha2
  have haC : a < C := Nat.lt_trans haD hDC
  have x4 : TS' X.prog X.w D C (putAll (items.take 0)) s4.heap := by
    refine ⟨[], fun _ => none, m, ?_, hn, .nil, fun b u e => by cases e⟩
    have := Heap.DictOfH.new (knd := tupleKind (mixKind X.prog X.w)) s1.heap
    rw [hD, ← h3] at this
    exact dh_keeps this (fun o e => k34 D o e) fun b hb => by cases hb
  have hcst : ∀ {h : Heap}, h.NoLimit → ∀ {h' : Heap}, (∀ b o, b ≠ D → b ≠ C → h.get? b = some o → h'.get? b = some o) → h'.NoLimit := fun {h} y {h'} kk => by
    obtain ⟨mc, q1, q2⟩ := y
    have hc1 : cStatics < s1.heap.objs.size := let ⟨_, z, _⟩ := hlim; z.lt
    rw [hD] at hc1
    exact ⟨mc, q1.at' fun o e => kk _ o (Nat.ne_of_lt hc1) (Nat.ne_of_lt (Nat.lt_trans hc1 hDC)) e, q2⟩
  have hgen : ∀ {h : Heap}, h.IsGen a g → ∀ {h' : Heap}, (∀ b o, b ≠ D → b ≠ C → h.get? b = some o → h'.get? b = some o) → h'.IsGen a g := fun {h} y {h'} kk => by
    obtain ⟨o, nm, qn, ho, r⟩ := y
    exact ⟨o, nm, qn, kk a o (Nat.ne_of_lt haD) (Nat.ne_of_lt haC) ho, r⟩
  subst cL
  have loop : codeAny (model X.prog X.w) X.A (.compLoop (.DictComp (.Tuple [.Name n1 q1, .Name n2 q2] lk kpos) (.Name n3 q3) [⟨.Tuple [.Name n1 p1, .Name n2 p2, .Name n3 p3] ck tpos, iter, [], 0⟩] scope pos) 0 (.ref a) (.ref D) ce)
      (compPost (model X.prog X.w) X.A X.xe none (fun u s' => ∃ y H', Inv X pins σ H' s' ∧ RelV y u ∧ Q y H') (.ref D) ce.locals) s4 := by
    refine compLoop_anyD (fun n s' => ∃ i gs, n + i = 100 ∧ s'.gens[g]? = some gs ∧ gs.Goes (model X.prog X.w) X.A.in1 (RE X.prog X.w X.stack H1 sc (own2 D ce.locals) 100 items) (YI sc (own2 D ce.locals) a g 100 items) n (.send .none) (s'.setGen g .running) ∧
      s'.os = sc.os ∧ AllBare s'.gens ∧ s'.heap.NoLimit ∧ s'.heap.IsGen a g ∧ TS' X.prog X.w D ce.locals (putAll (items.take i)) s'.heap) ?_ 100 ?_
    · rintro n s5 ⟨i, gs, hni, hgs5, hgo, hos5, hb5, hl5, hg5, x5⟩
      have hgl : g < s5.gens.size := (Array.getElem?_eq_some_iff.mp hgs5).1
      have hdp := hr.dp
      have hun := hr.units
      have hpl := putAll_len (items.take i) []
      have hil2 : (items.take i).length ≤ items.length := by rw [List.length_take]; exact Nat.min_le_right ..
      have hsl : (1000 : Nat) ≤ sizeLine := by decide
      have hpl : (putAll (items.take i)).length ≤ 0 + (items.take i).length := hpl
      refine wpAny_gsz (n := g + 1) hgl (next_genG (n := n) (gs := gs) (g := g) (F := fun n s₀ s1 => n + items.length = 100 ∧ s1.os = sc.os ∧ AllBare s1.gens ∧ (∀ b ∈ (own2 D ce.locals).f s₀.heap, s1.heap.get? b = s₀.heap.get? b) ∧
        ∃ H', Un (frs X.stack) [] H1 H' sc.heap s1.heap ∧ HOk X.prog X.w H' s1.heap ∧ Same H1 H' ∧ ∀ b ∈ (own2 D ce.locals).f s₀.heap, H' b = none) (Er := fun _ _ => False) hr.hd hl5 (by omega) hg5 hgs5 hgo (fun v s6 gs' hbare hv => ?_) (fun s6 hF h' hk => ?_) fun e s6 he => he.elim)
      · obtain ⟨hos6, hb6, hl6, hg6, hz6, ⟨i', hi', T, it, us, ev, hit, hT, hv'⟩, hk⟩ := hv
        subst ev
        have x6 : TS' X.prog X.w D ce.locals (putAll (items.take i)) s6.heap := x5.keeps hz6
        cases n with
        | zero => exact False.elim (hk s6 ⟨rfl, hb6, fun b o _ e => e, fun b hb => ⟨.inl hb, (x6.own b hb).2⟩⟩)
        | succ n' =>
          obtain rfl : i' = i := by omega
          intro hsz6
          have hsz6' : g < s6.gens.size := by
            have e := setGen_size s6 g gs'
            omega
          dsimp only
          refine dict_turn (s := s6.setGen g gs') hr.hd (by omega) cK cl1 cl2 cl3 cP n12 n13 n23 g1 g2 g3 hg6 x6 hDC hT hv' (by omega) (fun h7 tk x7 kp7 kn7 => ?_)
          refine ⟨n', Nat.lt_succ_self _, i' + 1, gs', by omega, setGen_at hsz6', hk _ ⟨rfl, allBare_setGen (s := { s6.setGen g gs' with heap := h7, toks := tk }) (allBare_setGen hb6 hbare) rfl, fun b o hb e => ?_, fun b hb => ?_⟩, hos6, allBare_setGen hb6 hbare, hcst hl6 kp7, hgen hg6 kp7, by rw [putAll_take hit]; exact x7⟩
          · exact kp7 b o (fun z => hb (by rw [z]; exact List.mem_cons_self ..)) (fun z => hb (by rw [z]; exact List.mem_cons_of_mem _ (List.mem_cons_self ..))) e
          · refine ⟨?_, (x7.own b hb).2⟩
            have hb : b ∈ D :: ce.locals :: kAt h7 D := hb
            show b ∈ D :: ce.locals :: kAt s6.heap D ∨ _
            rcases List.mem_cons.mp hb with z | hb
            · exact .inl (by rw [z]; exact List.mem_cons_self ..)
            rcases List.mem_cons.mp hb with z | hb
            · exact .inl (by rw [z]; exact List.mem_cons_of_mem _ (List.mem_cons_self ..))
            · rcases kn7 b hb with z | z
              · exact .inl (List.mem_cons_of_mem _ (List.mem_cons_of_mem _ z))
              · exact .inr z
      · obtain ⟨hn6, hos6, hb6, hz6, H', un, hok, sm, hn0⟩ := hF
        intro hsz6
        have x6 : TS' X.prog X.w D ce.locals (putAll (items.take i)) s6.heap := x5.keeps hz6
        have ei : items.take i = items := List.take_of_length_le (by omega)
        rw [ei] at x6
        have x6' : TS' X.prog X.w D ce.locals (putAll items) h' := x6.keeps fun b hb => by
          obtain ⟨_, o, ho, _⟩ := x6.own b hb
          rw [ho]
          exact hk b o ho
        have hf : (own2 D ce.locals).f s5.heap = (own2 D ce.locals).f s6.heap := ((own2 D ce.locals).st _ _ hz6).symm
        obtain ⟨_, _, m', _, n', _⟩ := x6'.ex
        refine ⟨m', n', fun h'' sb => ?_⟩
        obtain ⟨H'', I'', sm'', vD⟩ := taken (s2 := { s6.setGen g .finished with heap := h'' }) I1 hDs hDC (by rw [ei] at hpl; omega) x6 un hok sm (fun b hb => hn0 b (by show b ∈ (own2 D ce.locals).f s5.heap; rw [hf]; exact hb)) hos6 (allBare_setGen (s := s6) hb6 rfl) (fun b o hb e => (sb.2 b hb).trans (hk b o e))
        exact ⟨.ref D, H'', I'', rfl, q H'' D sm'' (I1.hok.fresh hDs) vD⟩
    · refine ⟨0, .fresh c, rfl, by rw [g4]; exact hgs, ⟨rfl, ?_⟩, o4, by rw [g4]; exact hb, hlim.keeps k4, hg.keeps k4, x4⟩
      refine wake X.A.in1 (own2 D ce.locals) (s4.setGen g .running) ?_ ?_ k4 (fun b hb => ?_) o4 (allBare_setGen (by rw [g4]; exact hb) rfl)
      · have h1 := hr.dp
        have h2 := hr.un
        exact ⟨hr.hd, by show X.A.depth + 3 * k + 5 < _; omega, by show X.A.units + 1 + 16 * k + 200 < _; omega⟩
      · exact I1.env0.frames
      · obtain ⟨q1, q2⟩ := x4.own b hb
        refine ⟨?_, q2⟩
        rw [hD]
        rcases q1 with z | z | z
        · exact Nat.le_of_eq z.symm
        · rw [z]; exact Nat.le_of_lt hDC
        · exact Nat.le_of_lt (Nat.lt_trans hDC z)
  exact codeAny_compStart_dict loop (wpAny_pyIter_gen (hg.keeps k4) loop)
end
end NS
set_option Elab.async false
set_option linter.all false
set_option maxRecDepth 100000
set_option maxHeartbeats 4000000
/-! The answers of a table. -/
namespace NS
open PySem PySem.Spec PyProof.Rows L2 He GenW
local macro_rules | `(tactic| walk_at "nf") => `(tactic| dsimp only [L2.tNext, L2.tSeq, L2.tDrop, L2.tRet, L2.tRetN, L2.tIfS, L2.tAsg, L2.gName, L2.gCons, L2.gNil, L2.gTup, L2.tOp, L2.tUn, L2.tTest, L2.tChain, L2.tB, L2.tAnd, L2.tOr, L2.tNot, L2.tAndV, L2.tOrV, L2.tNotV, L2.tIf, L2.tCB, L2.tNil, L2.tCons, L2.tTup, L2.tLst, L2.tFld, L2.sFld, L2.tCall, L2.tMeth, L2.tMake, L2.tBM, L2.tBM0, L2.tM1, L2.tM0, L2.tSl, L2.tPart, L2.tNoPart, L2.tPar, L2.tVar, L2.tC, L2.cxOf, L2.tYes, C8.tCut])
theorem vput {f : Str → Str → Option Str} {p c : Str} : ∀ (items : List (Str × Str × Str)) (l : List (List Key × V)), (∀ it ∈ items, f it.1 it.2.1 = some it.2.2) →
    ((∃ it ∈ items, it.1 = p ∧ it.2.1 = c) → valV (items.foldl putI l) [.inr p, .inr c] = (f p c).map V.str) ∧ ((∀ it ∈ items, ¬ (it.1 = p ∧ it.2.1 = c)) → valV (items.foldl putI l) [.inr p, .inr c] = valV l [.inr p, .inr c])
  | [], l, _ => ⟨fun ⟨_, h, _⟩ => (by cases h), fun _ => rfl⟩
  | it :: r, l, h => by
    obtain ⟨h1, h2⟩ := vput r (putI l it) (fun x hx => h x (List.mem_cons_of_mem _ hx)) (p := p) (c := c)
    rw [List.foldl_cons]
    have e : valV (putI l it) [.inr p, .inr c] = if ([Sum.inr p, Sum.inr c] : List Key) = [.inr it.1, .inr it.2.1] then some (.str it.2.2) else valV l [.inr p, .inr c] := valV_put ..
    by_cases hr : ∃ x ∈ r, x.1 = p ∧ x.2.1 = c
    · refine ⟨fun _ => h1 hr, fun hn => ?_⟩
      obtain ⟨x, hx, hx2⟩ := hr
      exact absurd hx2 (hn x (List.mem_cons_of_mem _ hx))
    · have hr' : ∀ x ∈ r, ¬ (x.1 = p ∧ x.2.1 = c) := fun x hx hx2 => hr ⟨x, hx, hx2⟩
      rw [h2 hr', e]
      refine ⟨fun ⟨x, hx, hx2⟩ => ?_, fun hn => ?_⟩
      · rcases List.mem_cons.mp hx with e2 | hx
        · subst e2
          obtain ⟨rfl, rfl⟩ := hx2
          rw [if_pos rfl, h x (List.mem_cons_self ..)]
          rfl
        · exact absurd hx2 (hr' x hx)
      · rw [if_neg (fun e2 => ?_)]
        have e3 := List.cons.inj e2
        have e4 := List.cons.inj e3.2
        exact hn it (List.mem_cons_self ..) ⟨(Sum.inr.inj e3.1).symm, (Sum.inr.inj e4.1).symm⟩
theorem cell_mem {r : Cells} {c a : Str} (h : cell r c = some a) : (c, a) ∈ r := by
  unfold cell at h
  obtain ⟨x, hx, e⟩ := Option.map_eq_some_iff.mp h
  have h1 := List.find?_some hx
  have h2 := List.mem_of_find?_eq_some hx
  obtain ⟨x1, x2⟩ := x
  simp at h1
  subst h1
  subst e
  exact h2
theorem ans_at {cols : List Str} {rows : Rws} (ho : OkRows cols rows) (p c : Str) : valV (putAll (itR cols rows)) [.inr p, .inr c] = (ans rows p c).map V.str := by
  obtain ⟨h1, h2⟩ := vput (f := ans rows) (p := p) (c := c) (itR cols rows) [] (fun it hit => by
    unfold itR itC at hit
    obtain ⟨r, hr, h⟩ := List.mem_flatMap.mp hit
    obtain ⟨cc, hc, e⟩ := List.mem_filterMap.mp h
    obtain ⟨a, ha, e⟩ := Option.map_eq_some_iff.mp e
    subst e
    show cell (rowOf rows r.1) cc = some a
    rw [rowOf_mem ho.nd hr]
    exact ha)
  by_cases h : ∃ it ∈ itR cols rows, it.1 = p ∧ it.2.1 = c
  · exact h1 h
  · refine (h2 fun it hit e => h ⟨it, hit, e⟩).trans ?_
    cases e : ans rows p c with
    | none => rfl
    | some a =>
      exfalso
      by_cases hp : p ∈ rows.map Prod.fst
      · obtain ⟨r, hr, rfl⟩ := List.mem_map.mp hp
        unfold ans at e
        rw [rowOf_mem ho.nd hr] at e
        refine h ⟨(r.1, c, a), ?_, rfl, rfl⟩
        unfold itR itC
        refine List.mem_flatMap.mpr ⟨r, hr, List.mem_filterMap.mpr ⟨c, ?_, ?_⟩⟩
        · exact ((ho.row r hr).key (c, a) (cell_mem e)).2
        · rw [e]; rfl
      · unfold ans at e
        rw [rowOf_not hp] at e
        cases e
section
variable {P : Program} {w : World} {K : PySem.W.Frag} {mg : Str → Option Value} {base : Heap}
def sp_answers_of (K : PySem.W.Frag) : Sp := fun vs H Q _ => ∃ t cols rows, vs = [.ref t] ∧ TableAt K H t cols rows ∧ OkCols cols ∧ OkRows cols rows ∧ ∀ H' d, Same H H' → H d = none → AnsAt H' d rows → Q (.ref d) H'
theorem sc_answers_of : FnScope ["table", "place", "column", "answer"] ["table"] (defScope s_answers_of) := ⟨rfl, rfl, rfl, by decide +kernel, rfl, by decide +kernel, by decide +kernel⟩
theorem ok_answers_of (T : Tx K mg) : C8.Cal P w K mg base 6 "answers_of" (sp_answers_of K) [] := by
  obtain ⟨fC, FC, bC⟩ := ok_Table_cells (P := P) (w := w) (base := base) T
  refine cal_of T.f_answers_of T.g_answers_of sc_answers_of (fun _ _ _ _ _ _ us hl => match us, hl with | [_], _ => rfl) (fun vs H Q E h => ?_) (fun cdv A outer s H vs Q E hr h => ?_)
  · obtain ⟨t, cols, rows, rfl, _⟩ := h
    rfl
  · obtain ⟨t, cols, rows, rfl, ht, hc, ho, k⟩ := h
    have nd := sc_answers_of.nd
    refine ⟨_, (pss_one (ps_ret (pe_dcg (own := [("place", 1), ("column", 2), ("answer", 3)]) nd (pgen2_meth0 (pv 0) T.cl_Table T.m_Table_cells FC bC (hr.mono (by decide))) (hr.mono (by decide)) (blkOk_by (by kernel_rfl)) rfl rfl rfl (by decide) (by decide) (by decide) rfl rfl rfl))), ?_⟩
    obtain ⟨dx, ct2, rd, h1, h2, h3⟩ := ht.ex
    refine ⟨_, rfl, t, dx, _, _, rfl, h1, by rfl, ⟨t, cols, rows, rfl, ht, hc, ho, rfl⟩, ?_, fun H2 D e hn hD => ?_⟩
    · have h1 := itR_len cols rows
      have h2 := ho.le
      have h3 := hc.le
      have h5 : rows.length * cols.length ≤ 20 * 3 := Nat.mul_le_mul h2 h3
      omega
    · exact k H2 D e hn ⟨_, hD, ans_at ho⟩
end
end NS
set_option Elab.async false
set_option linter.all false
set_option maxRecDepth 100000
set_option maxHeartbeats 4000000
/-! A dict comprehension of two clauses, its keys tuples. -/
namespace NS
open PySem PySem.Spec PyProof.Rows L2 He GenW
section
variable {X : Cx} {pins : List (Addr × Obj)} {σ : L2.St} {H : Hp} {s : Shared}
theorem d_dictSetT {E : Value → Shared → Prop} {D b : Addr} {kvs : List (List Key × V)} {k : List Key} {v : V} {r : Value} {Q : Unit → Shared → Prop} (hu : X.A.units < cLine) (I : Inv X pins σ H s) (hD : H D = some (.dT kvs)) (eb : H b = some (.tup (k.map kV)))
    (hz : kvs.length < sizeLine) (rv : RelV v r) (h : ∀ s', Inv X pins σ (upd H D (.dT (putK kvs k v))) s' → Q () s') : wpAny (model X.prog X.w) X.A (dictSet D (.ref b) r) Q E s := by
  obtain ⟨z, hd, xs, rel, dd⟩ := dt_of I.hok hD
  have hlen := length_putK kvs k v
  have hxs := Paired.length rel
  refine wpAny_dictSet_heap (knd := tupleKind (mixKind X.prog X.w)) hu (key_of I.hok eb) dd (fun h' dd' hs => h _ ?_) (by omega)
  obtain ⟨o', es, ep, ho', c1, c2, c3, _, c4⟩ := dd'
  refine d_write I (by rw [hD]; exact True.intro) hs ⟨o', ho'⟩ ⟨by omega, hd, _, KT.keeps (rel.put k eb rv) fun c ys ec => ?_, o', es, ep, ho', c1, c2, c3, c4⟩
  have hcD : c ≠ D := fun q => by rw [q, hD] at ec; cases ec
  rw [upd_ne hcD]
  exact ec
end
section
variable {P : Program} {w : World} {A : Around} {R : Result → Shared → Prop} {s : Shared} {kx vx t0 i0 t1 i1 : Expr} {scope : Scope} {pos : Pos} {it : Value} {D : Addr} {ce : Env}
theorem turn2_out (kx vx t0 i0 t1 i1 : Expr) (scope : Scope) (pos : Pos) (it acc : Value) (env : Env) :
    compTurn (.DictComp kx vx [⟨t0, i0, [], 0⟩, ⟨t1, i1, [], 0⟩] scope pos) 0 it acc env = (do
      standAt i0.pos
      match ← pyNext it with
      | none => pure (.done .next)
      | some v =>
        letOwnedTupleGo t0 it v
        assign t0 env v
        let mut ok := true
        for c in ([] : List Expr) do
          if ok then ok ← isTrue c env (eval c env)
        if ok then
          let x ← eval i1 env
          standAt i1.pos
          let x ← foldedSetIterable i1 env x
          let _ ← runOwn (.compStart (.DictComp kx vx [⟨t0, i0, [], 0⟩, ⟨t1, i1, [], 0⟩] scope pos) 1 (← holding [x] (pyIter x)) acc env) env
        again (.compLoop (.DictComp kx vx [⟨t0, i0, [], 0⟩, ⟨t1, i1, [], 0⟩] scope pos) 0 it acc env)) := by rfl
theorem turn2_in (kx vx t0 i0 t1 i1 : Expr) (scope : Scope) (pos : Pos) (it : Value) (D : Addr) (env : Env) :
    compTurn (.DictComp kx vx [⟨t0, i0, [], 0⟩, ⟨t1, i1, [], 0⟩] scope pos) 1 it (.ref D) env = (do
      standAt i1.pos
      match ← pyNext it with
      | none => pure (.done .next)
      | some v =>
        letOwnedTupleGo t1 it v
        assign t1 env v
        let mut ok := true
        for c in ([] : List Expr) do
          if ok then ok ← isTrue c env (eval c env)
        if ok then
          (do
            let kv ← eval kx env
            let vv ← holding [kv] (eval vx env)
            standAt { kx.pos with endLine := vx.pos.endLine, endCol := vx.pos.endCol }
            holding [kv, vv] (dictSet D kv vv))
        again (.compLoop (.DictComp kx vx [⟨t0, i0, [], 0⟩, ⟨t1, i1, [], 0⟩] scope pos) 1 it (.ref D) env)) := by rfl
abbrev NoX : Value → Shared → Prop := fun _ _ => False
theorem noX {α : Type} {m : Sem α} {Q : α → Shared → Prop} {E : Value → Shared → Prop} (h : wpAny (model P w) A m Q NoX s) : wpAny (model P w) A m Q E s := wpAny_mono h (fun _ _ q => q) fun _ _ q => q.elim
theorem loop2_out (hs : ∀ x, foldedSetIterable i1 ce x = pure x) (J : Nat → Shared → Prop)
    (turn : ∀ n s, J n s → wpAny (model P w) A (pyNext it) (fun r s1 => match r with
      | none => R (.ok .next) s1
      | some v => wpAny (model P w) A (letOwnedTupleGo t0 it v) (fun _ s2 => wpAny (model P w) A (assign t0 ce v) (fun _ s3 => wpAny (model P w) A (eval i1 ce) (fun x s4 => wpAny (model P w) A (pyIter x) (fun it1 s5 =>
          codeAny (model P w) A (.compStart (.DictComp kx vx [⟨t0, i0, [], 0⟩, ⟨t1, i1, [], 0⟩] scope pos) 1 it1 (.ref D) ce) (fun r s6 => (∃ f, r = .ok f) ∧ ∃ m, m < n ∧ J m s6) s5) NoX s4) NoX s3) NoX s2) NoX s1) NoX s)
    (n : Nat) (h : J n s) : codeAny (model P w) A (.compLoop (.DictComp kx vx [⟨t0, i0, [], 0⟩, ⟨t1, i1, [], 0⟩] scope pos) 0 it (.ref D) ce) R s := by
  refine codeAny_loop rfl J (fun n s hJ => ?_) n h
  show wpAny _ A ((compTurn (.DictComp kx vx [⟨t0, i0, [], 0⟩, ⟨t1, i1, [], 0⟩] scope pos) 0 it (.ref D) ce).onRaise (fun x => do noteFrame x ce; theTreesLotGoes x)) _ _ s
  refine wpAny_noted ?_
  rw [turn2_out]
  refine wpAny_bind (wpAny_standAt (wpAny_bind (noX (wpAny_mono (turn n s hJ) (fun r s1 h1 => ?_) fun _ _ q => q))))
  cases r with
  | none => exact wpAny_pure h1
  | some v =>
    refine wpAny_bind (noX (wpAny_mono h1 (fun _ s2 h2 => ?_) fun _ _ q => q))
    refine wpAny_bind (noX (wpAny_mono h2 (fun _ s3 h3 => wpAny_bind (wpAny_of_eq (a := true) rfl ?_)) fun _ _ q => q))
    rw [if_pos rfl]
    refine wpAny_bind (noX (wpAny_mono h3 (fun x s4 h4 => ?_) fun _ _ q => q))
    refine wpAny_bind (wpAny_standAt (wpAny_bind (wpAny_of_eq (hs x) (wpAny_bind (wpAny_holding (noX (wpAny_mono h4 (fun it1 s5 h5 => ?_) fun _ _ q => q)))))))
    refine wpAny_bind (wpAny_runOwn ?_)
    rw [Around.mark_none]
    refine codeAny_mono h5 fun r s6 hr => ?_
    obtain ⟨⟨f, rfl⟩, hr⟩ := hr
    first
      | exact wpAny_pure ⟨rfl, hr⟩
      | exact wpAny_bind (wpAny_pure (wpAny_pure ⟨rfl, hr⟩))
theorem loop2_in (J : Nat → Shared → Prop)
    (turn : ∀ n s, J n s → wpAny (model P w) A (pyNext it) (fun r s1 => match r with
      | none => R (.ok .next) s1
      | some v => wpAny (model P w) A (letOwnedTupleGo t1 it v) (fun _ s2 => wpAny (model P w) A (assign t1 ce v) (fun _ s3 => wpAny (model P w) A (eval kx ce) (fun kv s4 => wpAny (model P w) A (eval vx ce) (fun vv s5 =>
          wpAny (model P w) A (dictSet D kv vv) (fun _ s6 => ∃ m, m < n ∧ J m s6) NoX s5) NoX s4) NoX s3) NoX s2) NoX s1) NoX s)
    (n : Nat) (h : J n s) : codeAny (model P w) A (.compLoop (.DictComp kx vx [⟨t0, i0, [], 0⟩, ⟨t1, i1, [], 0⟩] scope pos) 1 it (.ref D) ce) R s := by
  refine codeAny_loop rfl J (fun n s hJ => ?_) n h
  show wpAny _ A ((compTurn (.DictComp kx vx [⟨t0, i0, [], 0⟩, ⟨t1, i1, [], 0⟩] scope pos) 1 it (.ref D) ce).onRaise (fun x => do noteFrame x ce; theTreesLotGoes x)) _ _ s
  refine wpAny_noted ?_
  rw [turn2_in]
  refine wpAny_bind (wpAny_standAt (wpAny_bind (noX (wpAny_mono (turn n s hJ) (fun r s1 h1 => ?_) fun _ _ q => q))))
  cases r with
  | none => exact wpAny_pure h1
  | some v =>
    refine wpAny_bind (noX (wpAny_mono h1 (fun _ s2 h2 => ?_) fun _ _ q => q))
    refine wpAny_bind (noX (wpAny_mono h2 (fun _ s3 h3 => wpAny_bind (wpAny_of_eq (a := true) rfl ?_)) fun _ _ q => q))
    rw [if_pos rfl]
    refine wpAny_bind (wpAny_bind (noX (wpAny_mono h3 (fun kv s4 h4 => ?_) fun _ _ q => q)))
    refine wpAny_bind (wpAny_holding (noX (wpAny_mono h4 (fun vv s5 h5 => ?_) fun _ _ q => q)))
    exact wpAny_bind (wpAny_standAt (wpAny_holding (noX (wpAny_mono h5 (fun _ s6 h6 => wpAny_pure ⟨rfl, h6⟩) fun _ _ q => q))))
theorem start2_in {it : Value} (h0 : codeAny (model P w) A (.compLoop (.DictComp kx vx [⟨t0, i0, [], 0⟩, ⟨t1, i1, [], 0⟩] scope pos) 1 it (.ref D) ce) R s)
    (h : wpAny (model P w) A (pyIter it) (fun it' s' => codeAny (model P w) A (.compLoop (.DictComp kx vx [⟨t0, i0, [], 0⟩, ⟨t1, i1, [], 0⟩] scope pos) 1 it' (.ref D) ce) R s') (notedBy (model P w) A ce fun x s' => R (.error x) s') s) :
    codeAny (model P w) A (.compStart (.DictComp kx vx [⟨t0, i0, [], 0⟩, ⟨t1, i1, [], 0⟩] scope pos) 1 it (.ref D) ce) R s := by
  refine codeAny_of_tree ?_
  show wpAny _ _ ((compStart (.DictComp kx vx [⟨t0, i0, [], 0⟩, ⟨t1, i1, [], 0⟩] scope pos) 1 it (.ref D) ce).onRaise (fun x => do noteFrame x ce; standAt theWindowsPlace)) _ _ s
  refine wpAny_notedAt ?_
  unfold compStart
  show wpAny _ _ (ask >>= _) _ _ s
  refine wpAny_bind (wpAny_askSetting (wpAny_ite ?_))
  split
  · exact wpAny_bind (wpAny_pure (wpAny_pure ⟨rfl, h0⟩))
  · exact wpAny_bind (wpAny_rule (wpAny_bind (wpAny_standAt (wpAny_bind (wpAny_mono h (fun it' s' h' => wpAny_pure ⟨rfl, h'⟩) fun _ _ x => x)))))
end
end NS
set_option Elab.async false
set_option linter.all false
set_option maxRecDepth 100000
set_option maxHeartbeats 4000000
/-! A dict comprehension of two clauses: the rule. -/
namespace NS
open PySem PySem.Spec PyProof.Rows L2 He GenW
/-- what the second clause does with the dict at D; Nx: behind it -/
def tIn2 (wi1 : TI) (g1 : TG) (tk tv : TE) (vs1 : List Nat) (D : Addr) (Nx : Hp → Prop) (σ2 : L2.St) (H2 : Hp) : Prop := wi1 σ2 H2 fun J1 H4 => ∃ W1 : Nat → Nat → Hp → Prop, (∃ k, W1 0 k H4) ∧ ∀ j k H, W1 j k H →
  (J1.stop j H ∧ Nx H) ∨ (J1.go j H ∧ ∃ Nx1 : Hp → Prop, (∀ H', Nx1 H' → ∃ k', k' < k ∧ W1 (j + 1) k' H') ∧ ∀ x H', J1.yld j H x H' → g1 x (wipe σ2 vs1) H' fun σ3 H5 => wipe σ3 vs1 = wipe σ2 vs1 ∧ tk σ3 H5 fun y H6 => tv σ3 H6 fun z H7 =>
    ∃ b kvs k, y = .ref b ∧ H7 b = some (.tup (k.map kV)) ∧ H7 D = some (.dT kvs) ∧ kvs.length < sizeLine ∧ Nx1 (upd H7 D (.dT (putK kvs k z))))
def tDc2 (wi : TI) (g : TG) (wi1 : TI) (g1 : TG) (tk tv : TE) (vs vs1 : List Nat) : TE := fun σ H Q => wi σ H fun J H1 => ∀ D, H1 D = none → ∃ W : Nat → Nat → Hp → Prop, (∃ m, W 0 m (upd H1 D (.dT []))) ∧ ∀ i m H, W i m H →
  (J.stop i H ∧ Q (.ref D) H) ∨ (J.go i H ∧ ∃ Nx : Hp → Prop, (∀ H', Nx H' → ∃ m', m' < m ∧ W (i + 1) m' H') ∧ ∀ x H', J.yld i H x H' → g x (wipe σ vs) H' fun σ2 H2 => wipe σ2 vs = wipe σ vs ∧ tIn2 wi1 g1 tk tv vs1 D Nx σ2 H2)
section
variable {Y : Cx} {kx vx t0 i0 t1 i1 : Expr} {scope : Scope} {pos : Pos} {wi1 : TI} {g1 : TG} {tk tv : TE}
/-- the second clause runs -/
theorem in2_ok {pins : List (Addr × Obj)} {s : Shared} {σ : L2.St} {H : Hp} {vs1 : List Nat} {D : Addr} {Nx : Hp → Prop} (hx : Y.xe = NoX) (hc : Y.calm = true) (hu : Y.A.units < cLine) (hi : PI Y t1 i1 wi1) (hg : PG Y t1 g1) (hk : PE Y kx tk) (hv : PE Y vx tv) (I : Inv Y pins σ H s) (h : tIn2 wi1 g1 tk tv vs1 D Nx σ H) :
    wpAny (model Y.prog Y.w) Y.A (eval i1 Y.env) (fun x s4 => wpAny (model Y.prog Y.w) Y.A (pyIter x) (fun it1 s5 =>
      codeAny (model Y.prog Y.w) Y.A (.compStart (.DictComp kx vx [⟨t0, i0, [], 0⟩, ⟨t1, i1, [], 0⟩] scope pos) 1 it1 (.ref D) Y.env) (fun r s6 => (∃ f, r = .ok f) ∧ ∃ H', Inv Y pins (wipe σ vs1) H' s6 ∧ Nx H') s5) NoX s4) NoX s := by
  have run : ∀ {α : Type} {m : Sem α} {Q : α → Shared → Prop} {s : Shared}, wpAny (model Y.prog Y.w) Y.A m Q Y.xe s → wpAny (model Y.prog Y.w) Y.A m Q NoX s := fun {α m Q s} q => by rw [hx] at q; exact q
  refine wpAny_mono (run (hi.run pins s σ H _ I h)) (fun x s4 h4 => wpAny_mono (run h4) (fun itv s5 h5 => ?_) fun _ _ q => q) fun _ _ q => q
  obtain ⟨it, fp, tn, J, H5, rfl, I5, T, st5, f5, W, ⟨k0, w0⟩, turn⟩ := h5
  have fpo : ∀ {H' : Hp}, (∀ b ∈ fp, H' b = none) → ∀ b ∈ fp, FpOk Y pins H' b := fun hn b hb => ⟨hn b hb, (f5 b hb).2⟩
  have loop : codeAny (model Y.prog Y.w) Y.A (.compLoop (.DictComp kx vx [⟨t0, i0, [], 0⟩, ⟨t1, i1, [], 0⟩] scope pos) 1 (.ref it) (.ref D) Y.env) (fun r s6 => (∃ f, r = .ok f) ∧ ∃ H', Inv Y pins (wipe σ vs1) H' s6 ∧ Nx H') s5 := by
    refine loop2_in (fun k s' => ∃ j H', Inv Y pins (wipe σ vs1) H' s' ∧ tn j s'.heap ∧ (∀ b ∈ fp, H' b = none) ∧ W j k H') ?_ k0 ⟨0, H5, I5.weak (wipe_length _ _) (fun j v e => (wipe_some e).1), st5, fun b hb => (f5 b hb).1, w0⟩
    rintro k s6 ⟨j, H6, I6, st6, n6, w6⟩
    rcases turn j k H6 w6 with ⟨stop, nx⟩ | ⟨go, Nx1, hNx1, step⟩
    · refine wpAny_mono (T.done Y rfl rfl rfl hc j _ s6 _ H6 NoX I6 (fpo n6) st6 stop) (fun r s7 ⟨hr, I7⟩ => ?_) fun _ _ q => q
      subst hr
      exact ⟨⟨_, rfl⟩, H6, I7, nx⟩
    · refine wpAny_mono (T.item Y rfl rfl rfl hc j _ s6 _ H6 NoX I6 (fpo n6) st6 go) (fun r s7 ⟨u, hr, h7⟩ => ?_) fun _ _ q => q
      subst hr
      refine wpAny_mono h7 (fun _ s8 ⟨y, H8, I8, r8, y8, st8, n8⟩ => ?_) fun _ _ q => q
      have J8 := I8.pinned (fpo n8) (T.obj _ _ st8)
      refine wpAny_mono (run (hg.run _ s8 _ H8 y u _ J8 r8 (step y H8 y8))) (fun _ s9 ⟨σ9, H9, I9, hw9, q9⟩ => ?_) fun _ _ q => q
      refine wpAny_mono (run (hk.run _ s9 σ9 H9 _ I9 q9)) (fun kv sA ⟨yk, HA, IA, rA, qA⟩ => ?_) fun _ _ q => q
      refine wpAny_mono (run (hv.run _ sA σ9 HA _ IA qA)) (fun vv sB ⟨yv, HB, IB, rB, b, kvs, k', ek, eb, eD, hz, nx⟩ => ?_) fun _ _ q => q
      subst ek
      obtain rfl : kv = Value.ref b := rA
      refine d_dictSetT hu IB eD eb hz rB fun sC IC => ?_
      obtain ⟨m, hm, w'⟩ := hNx1 _ nx
      have pin : ∀ c ∈ fp, ∀ o, s8.heap.get? c = some o → sC.heap.get? c = some o ∧ upd HB D (.dT (putK kvs k' yv)) c = none := fun c hb o e =>
        let z := IC.pin (c, o) (List.mem_append_right _ (List.mem_append_right _ (mem_pinsAt hb e)))
        ⟨z.1, z.2.1⟩
      refine ⟨m, hm, j + 1, _, IC.unpinned.weak (by rw [← hw9, wipe_length]) (fun j v e => by rw [← hw9] at e; exact (wipe_some e).1), T.keep _ _ _ st8 fun c hb o e => (pin c hb o e).1, fun c hb => ?_, w'⟩
      obtain ⟨o, e, _⟩ := T.obj _ _ st8 c hb
      exact (pin c hb o e).2
  exact start2_in loop (T.self Y.A 0 _ _ _ st5 loop)
end
section
variable {X : Cx}
theorem pe_dc2 {kx vx t0 i0 t1 i1 : Expr} {scope : Scope} {own : List (Str × Nat)} {vs1 : List Nat} {pos : Pos} {wi wi1 : TI} {g g1 : TG} {tk tv : TE} (hc : X.calm = true) (hN : X.N.Nodup) (hu : X.A.units < cLine) (hi : PI X t0 i0 wi) (ok : BlkOk X.N X.env.scope scope own) (hv1 : ∀ i ∈ vs1, i ∈ own.map (·.2))
    (hg : ∀ (s : Shared) (H : Hp) (C : Addr) (cl : List (Str × Addr)) (fp : List Addr), PG (X.blk s H scope (compEnvC scope cl C X.env) fp) t0 g)
    (hi1 : ∀ (s : Shared) (H : Hp) (C : Addr) (cl : List (Str × Addr)) (fp : List Addr), PI (X.blk s H scope (compEnvC scope cl C X.env) fp) t1 i1 wi1)
    (hg1 : ∀ (s : Shared) (H : Hp) (C : Addr) (cl : List (Str × Addr)) (fp : List Addr), PG (X.blk s H scope (compEnvC scope cl C X.env) fp) t1 g1)
    (hk : ∀ (s : Shared) (H : Hp) (C : Addr) (cl : List (Str × Addr)) (fp : List Addr), PE (X.blk s H scope (compEnvC scope cl C X.env) fp) kx tk)
    (hv : ∀ (s : Shared) (H : Hp) (C : Addr) (cl : List (Str × Addr)) (fp : List Addr), PE (X.blk s H scope (compEnvC scope cl C X.env) fp) vx tv)
    (hs : ∀ x, foldedSetIterable i0 X.env x = pure x := by intro _; rfl) (hs1 : ∀ env x, foldedSetIterable i1 env x = pure x := by intro _ _; rfl) :
    PE X (.DictComp kx vx [⟨t0, i0, [], 0⟩, ⟨t1, i1, [], 0⟩] scope pos) (tDc2 wi g wi1 g1 tk tv (own.map (·.2)) vs1) := by
  refine ⟨fun pins s σ H Q I h => ?_⟩
  rw [arm_eval_DictComp]
  have hfree : ∀ y ∈ scope.names, y.2 = .free → ∃ c, X.env.cells.lookup y.1 = some c := fun y hy e => by
    rcases ok.free y hy e with k | k
    · exact I.ok.has _ (.inl k)
    · exact I.ok.has _ (.inr k)
  refine wpAny_comprehension_free (use := none) rfl hs (closure_ok hfree) ok.kind (fun y hy e => by rw [ok.uniq y hy, e]) (thn (hi.run pins s σ H _ I h) fun xv s1 hx => thn hx fun itv s2 h2 => ?_)
  obtain ⟨it, fp, tn, J, H2, rfl, I2, T, st2, f2, q⟩ := h2
  refine wpAny_newObj_type (newEnv_comp ?_)
  obtain ⟨W, ⟨m0, w0⟩, turn⟩ := q s2.heap.objs.size (I2.hok.fresh (Nat.le_refl _))
  generalize hD : s2.heap.objs.size = D at w0 turn
  generalize hs3 : ({ s2 with heap := s2.heap.push { cls := .type "dict", data := .dict #[] } } : Shared) = s3
  have h3 : s3.heap = s2.heap.push { cls := .type "dict", data := .dict #[] } := by rw [← hs3]
  generalize hH3 : upd H2 D (.dT []) = H3 at w0
  have I3 : Inv X pins σ H3 s3 := by
    rw [← hs3, ← hH3]
    refine I2.laid (t' := s2.toks) (fun b o e => Heap.get?_push_of_some _ e) (Nat.le_of_eq hD) ?_
    rw [← hD]
    exact dt_empty s2.heap I2.big
  have sz : ∀ b ∈ fp, b < D := fun b hb => by
    obtain ⟨o, e, _⟩ := T.obj _ _ st2 b hb
    rw [← hD]
    exact Heap.lt_size e
  have f3 : ∀ b ∈ fp, FpOk X pins H3 b ∧ b < s3.heap.objs.size := fun b hb => by
    refine ⟨⟨?_, (f2 b hb).2⟩, by rw [h3, Heap.size_push, hD]; exact Nat.lt_succ_of_lt (sz b hb)⟩
    rw [← hH3, upd_ne (Nat.ne_of_lt (sz b hb))]
    exact (f2 b hb).1
  have I4 := block_start I3 ok hN f3
  show codeAny _ _ (.compStart (.DictComp kx vx [⟨t0, i0, [], 0⟩, ⟨t1, i1, [], 0⟩] scope pos) 0 (.ref it) (.ref D) (compEnvC scope (cellsFrom (s3.heap.objs.size + 1) scope.names (cloFrom X.env.cells scope.names [])) s3.heap.objs.size X.env))
    (compPost (model X.prog X.w) X.A X.xe none _ (.ref D) s3.heap.objs.size) { s3 with heap := pushCells (s3.heap.push { cls := .type "dict", data := .dict #[] }) scope.names }
  have bg := hg s3 H3 s3.heap.objs.size (cellsFrom (s3.heap.objs.size + 1) scope.names (cloFrom X.env.cells scope.names [])) fp
  have bi1 := hi1 s3 H3 s3.heap.objs.size (cellsFrom (s3.heap.objs.size + 1) scope.names (cloFrom X.env.cells scope.names [])) fp
  have bg1 := hg1 s3 H3 s3.heap.objs.size (cellsFrom (s3.heap.objs.size + 1) scope.names (cloFrom X.env.cells scope.names [])) fp
  have bk := hk s3 H3 s3.heap.objs.size (cellsFrom (s3.heap.objs.size + 1) scope.names (cloFrom X.env.cells scope.names [])) fp
  have bv := hv s3 H3 s3.heap.objs.size (cellsFrom (s3.heap.objs.size + 1) scope.names (cloFrom X.env.cells scope.names [])) fp
  generalize hce : compEnvC scope (cellsFrom (s3.heap.objs.size + 1) scope.names (cloFrom X.env.cells scope.names [])) s3.heap.objs.size X.env = ce at I4 bg bi1 bg1 bk bv
  have cL : ce.locals = s3.heap.objs.size := by subst hce; rfl
  generalize hs4 : ({ s3 with heap := pushCells (s3.heap.push { cls := .type "dict", data := .dict #[] }) scope.names } : Shared) = s4 at I4
  have st4 : tn 0 s4.heap := T.keep _ _ _ st2 fun b _ o e => by
    rw [← hs4]
    exact pushCells_keeps _ _ _ _ (Heap.get?_push_of_some _ (by rw [h3]; exact Heap.get?_push_of_some _ e))
  have fpo : ∀ {σ' : L2.St} {H' : Hp} {s' : Shared}, Inv (X.blk s3 H3 scope ce fp) [] σ' H' s' → (∀ b ∈ fp, H' b = none) → ∀ b ∈ fp, FpOk (X.blk s3 H3 scope ce fp) [] H' b := fun {σ' H' s'} I' hn b hb =>
    ⟨hn b hb, (I'.ok.exf b hb).1, I'.ok.exfs b hb, .inl hb, fun x c e => (I'.ok.exf b hb).2 x c e, fun p hp => by simp [Cx.blk] at hp⟩
  have loop : codeAny (model X.prog X.w) X.A (.compLoop (.DictComp kx vx [⟨t0, i0, [], 0⟩, ⟨t1, i1, [], 0⟩] scope pos) 0 (.ref it) (.ref D) ce) (compPost (model X.prog X.w) X.A X.xe none (fun u s' => ∃ y H', Inv X pins σ H' s' ∧ RelV y u ∧ Q y H') (.ref D) s3.heap.objs.size) s4 := by
    refine loop2_out (hs1 ce) (fun n s' => ∃ i H', Inv (X.blk s3 H3 scope ce fp) [] (wipe σ (own.map (·.2))) H' s' ∧ tn i s'.heap ∧ (∀ b ∈ fp, H' b = none) ∧ W i n H') ?_ m0 ⟨0, H3, I4, st4, fun b hb => (f3 b hb).1.1, w0⟩
    rintro n s5 ⟨i, H5, I5, st5, n5, w5⟩
    rcases turn i n H5 w5 with ⟨stop, qq⟩ | ⟨go, Nx, hNx, step⟩
    · refine wpAny_mono (T.done (X.blk s3 H3 scope ce fp) rfl rfl rfl hc i [] s5 _ H5 NoX I5 (fpo I5 n5) st5 stop) (fun r s6 ⟨hr, I6⟩ => ?_) fun _ _ q => q
      subst hr
      have I7 : Inv X pins σ H5 s6 := I3.call' (ch := fp) I6.os I6.base I6.hok I6.bare fun b hb => ⟨(f3 b hb).1.2.2.2.1, (f3 b hb).1.2.1, (f3 b hb).1.2.2.2.2.1, (f3 b hb).1.2.2.2.2.2⟩
      have nC : H5 s3.heap.objs.size = none := by
        have z : H5 ce.locals = none := I6.free
        rw [cL] at z
        exact z
      obtain ⟨m, hn, _⟩ := I6.loc
      have hn : s6.heap.Ns ce.locals m := hn
      rw [cL] at hn
      obtain ⟨e0, e1, e2, e3, e4, e5⟩ := I3.fpOk (Nat.le_refl _) nC
      refine ⟨m, hn, fun h'' sb => ⟨.ref D, H5, I7.turned (t' := s6.toks) (fun b o hb e => (sb.2 b hb).trans e) e0 e1 e3 e4 e5, rfl, qq⟩⟩
    · refine wpAny_mono (T.item (X.blk s3 H3 scope ce fp) rfl rfl rfl hc i [] s5 _ H5 NoX I5 (fpo I5 n5) st5 go) (fun r s6 ⟨u, hr, h6⟩ => ?_) fun _ _ q => q
      subst hr
      refine wpAny_mono h6 (fun _ s7 ⟨x, H7, I7, r7, y7, st7, n7⟩ => ?_) fun _ _ q => q
      have J7 := I7.pinned (fpo I7 n7) (T.obj _ _ st7)
      refine wpAny_mono (bg.run _ s7 _ H7 x u _ J7 r7 (step x H7 y7)) (fun _ s8 ⟨σ8, H8, I8, hw8, q8⟩ => ?_) fun _ _ q => q
      refine wpAny_mono (in2_ok (Y := X.blk s3 H3 scope ce fp) rfl hc hu bi1 bg1 bk bv I8 q8) (fun xv s9 h9 => wpAny_mono h9 (fun itv sA hA => codeAny_mono hA fun r sB hB => ?_) fun _ _ q => q) fun _ _ q => q
      obtain ⟨hf, HB, IB, nx⟩ := hB
      obtain ⟨m', hm, w'⟩ := hNx HB nx
      have pin : ∀ b ∈ fp, ∀ o, s7.heap.get? b = some o → sB.heap.get? b = some o ∧ HB b = none := fun b hb o e =>
        let z := IB.pin (b, o) (List.mem_append_right _ (List.mem_append_right _ (mem_pinsAt hb e)))
        ⟨z.1, z.2.1⟩
      refine ⟨hf, m', hm, i + 1, HB, (IB.unpinned (pins := [])).weak (by rw [← hw8, wipe_length, wipe_length]) (fun j v e => ?_), T.keep _ _ _ st7 fun b hb o e => (pin b hb o e).1, fun b hb => ?_, w'⟩
      · rw [← hw8] at e
        obtain ⟨a1, a2⟩ := wipe_some e
        rw [wipe_out fun z => a2 (hv1 j z)]
        exact a1
      · obtain ⟨o, e, _⟩ := T.obj _ _ st7 b hb
        exact (pin b hb o e).2
  exact codeAny_compStart_dict loop (T.self X.A 0 _ _ _ st4 loop)
end
end NS
set_option Elab.async false
set_option linter.all false
set_option maxRecDepth 100000
set_option maxHeartbeats 4000000
/-! An exchange made: what stays while its fields are set. -/
namespace NS
open PySem PySem.Spec PyProof.Rows L2 He
theorem uc_of {k : Nat} {A : Around} (hr : Room k A) : A.units < cLine := by
  have := hr.units
  omega
/-! ### facts that the object at x, being made, does not touch -/
def XB (H : Hp) (x : Addr) : Prop := ∃ C dx fs, H x = some (.ins C dx fs) ∧ ∀ p ∈ fs, p.1 ∈ exFields
def KF (x : Addr) (F : Hp → Prop) : Prop := ∀ H H', XB H x → But x H H' → F H → F H'
theorem KF.and {x : Addr} {F G : Hp → Prop} (f : KF x F) (g : KF x G) : KF x (fun H => F H ∧ G H) := fun H H' b e h => ⟨f H H' b e h.1, g H H' b e h.2⟩
theorem kf_sqt {K : PySem.W.Frag} {x a : Addr} {xs : List V} : KF x (fun H => SqT K H a xs) := fun H H' ⟨C, dx, fs, h, _⟩ e q => e.sqt h q
theorem kf_sql {K : PySem.W.Frag} {x a : Addr} {xs : List V} : KF x (fun H => SqL K H a xs) := fun H H' ⟨C, dx, fs, h, _⟩ e q => e.sql h q
theorem kf_ins {x t : Addr} {H H' : Hp} {C dx : Addr} {fs : List (Str × V)} {f : Str} (b : XB H x) (e : But x H H') (h : H t = some (.ins C dx fs)) (hf : f ∈ fs.map Prod.fst) (hn : f ∉ exFields) : H' t = some (.ins C dx fs) := by
  obtain ⟨C', dx', fs', hx, hall⟩ := b
  refine e t _ (fun z => ?_) h
  rw [z, hx] at h
  cases h
  obtain ⟨p, hp, rfl⟩ := List.mem_map.mp hf
  exact hn (hall p hp)
theorem kf_table {K : PySem.W.Frag} {x t : Addr} {cols : List Str} {rows : Rws} : KF x (fun H => TableAt K H t cols rows) := fun H H' b e q => by
  obtain ⟨dx, ct, rd, h1, h2, h3⟩ := q.ex
  have h1' := kf_ins (f := "row_of") b e h1 (by simp) (by decide +kernel)
  obtain ⟨C', dx', fs', hx, _⟩ := b
  exact ⟨dx, ct, rd, h1', e.sqt hx h2, e.rows hx h3⟩
theorem kf_ans {x d : Addr} {rows : Rws} : KF x (fun H => AnsAt H d rows) := fun H H' ⟨C, dx, fs, hx, _⟩ e ⟨k, h1, h2⟩ => ⟨k, e _ _ (fun z => by rw [z, hx] at h1; cases h1) h1, h2⟩
theorem kf_step {K : PySem.W.Frag} {x a : Addr} {w p : Str} {cols : List Str} : KF x (fun H => StepAt K H a w p cols) := fun H H' b e q => by
  obtain ⟨C, dx, ct, hh, h1, h2, h3, h4, h5, h6⟩ := q.ex
  have h1' := kf_ins (f := "place") b e h1 (by simp) (by decide +kernel)
  obtain ⟨C', dx', fs', hx, _⟩ := b
  exact ⟨C, dx, ct, hh, h1', h2, h3, h4, h5, e.sqt hx h6⟩
theorem kf_steps {K : PySem.W.Frag} {x : Addr} {as : List Addr} {sts : List Stp} : KF x (fun H => StepsAt K H as sts) := fun H H' b e q => ⟨q.len, fun i a s h1 h2 => kf_step H H' b e (q.at_ i a s h1 h2)⟩
theorem kf_dT {x n : Addr} {kvs : List (List Key × V)} : KF x (fun H => H n = some (.dT kvs)) := fun H H' ⟨C, dx, fs, hx, _⟩ e h => e _ _ (fun z => by rw [z, hx] at h; cases h) h
theorem kf_snt {x : Addr} {vs : List V} {l : List Snt} : KF x (fun H => Paired (SntAt H) vs l) := fun H H' ⟨C, dx, fs, hx, _⟩ e h => Paired.mapP h fun v q ⟨t, h1, h2⟩ => ⟨t, h1, e _ _ (fun z => by rw [z, hx] at h2; cases h2) h2⟩
theorem KF.same {x : Addr} {F : Hp → Prop} (f : KF x F) {H H' : Hp} (b : XB H x) (e : Same H H') (h : F H) : F H' := f H H' b (Same.but e) h
theorem xb_of {H : Hp} {x C dx : Addr} {fs : List (Str × V)} (h : H x = some (.ins C dx fs)) (ha : (fs.map Prod.fst).all (fun f => decide (f ∈ exFields)) = true) : XB H x := ⟨C, dx, fs, h, fun p hp => by
  have := List.all_eq_true.mp ha p.1 (List.mem_map_of_mem hp)
  exact of_decide_eq_true this⟩
theorem putF_new {f : Str} {v : V} : ∀ {fs : List (Str × V)}, f ∉ fs.map Prod.fst → putF f v fs = fs ++ [(f, v)]
  | [], _ => rfl
  | (g, x) :: r, h => by
    rw [putF_ne (fun e => h (by rw [e]; exact List.mem_cons_self ..)), putF_new (fun e => h (List.mem_cons_of_mem _ e))]
    rfl
theorem usrt_mem {ss L : List Str} (hs : sortedS ss = true) (hn : ss.Nodup) (hm : ∀ k, k ∈ ss ↔ k ∈ L) : ss = usrt L := (sorted_usrt (List.Perm.refl ss) hs hn).trans (usrt_congr hm)
/-! ### the steps' numbers -/
def putC (k : Nat) (p : Str) (l : List (List Key × V)) (c : Str) : List (List Key × V) := putK l [.inr p, .inr c] (.int (k : Nat))
def numP (sts : List Stp) : Nat → List (List Key × V)
  | 0 => []
  | i + 1 => match sts[i]? with
    | some s => s.2.2.foldl (putC i s.2.1) (numP sts i)
    | none => numP sts i
theorem putC_val {k : Nat} {p p' c' : Str} : ∀ (cs : List Str) (l : List (List Key × V)), valV (cs.foldl (putC k p) l) [.inr p', .inr c'] = if p' = p ∧ c' ∈ cs then some (.int (k : Nat)) else valV l [.inr p', .inr c']
  | [], l => by simp
  | c :: cs, l => by
    rw [List.foldl_cons, putC_val cs]
    have e : valV (putC k p l c) [.inr p', .inr c'] = if ([Sum.inr p', Sum.inr c'] : List Key) = [.inr p, .inr c] then some (.int (k : Nat)) else valV l [.inr p', .inr c'] := valV_put ..
    by_cases h : p' = p ∧ c' ∈ cs
    · rw [if_pos h, if_pos ⟨h.1, List.mem_cons_of_mem _ h.2⟩]
    · rw [if_neg h, e]
      by_cases h2 : p' = p ∧ c' = c
      · obtain ⟨rfl, rfl⟩ := h2
        rw [if_pos rfl, if_pos ⟨rfl, List.mem_cons_self ..⟩]
      · have n1 : ¬ ([Sum.inr p', Sum.inr c'] : List Key) = [.inr p, .inr c] := fun q => h2 (by
          have e3 := List.cons.inj q
          exact ⟨Sum.inr.inj e3.1, Sum.inr.inj (List.cons.inj e3.2).1⟩)
        have n2 : ¬ (p' = p ∧ c' ∈ c :: cs) := fun q => by
          rcases List.mem_cons.mp q.2 with z | z
          · exact h2 ⟨q.1, z⟩
          · exact h ⟨q.1, z⟩
        rw [if_neg n1, if_neg n2]
theorem putC_len {k : Nat} {p : Str} : ∀ (cs : List Str) (l : List (List Key × V)), (cs.foldl (putC k p) l).length ≤ l.length + cs.length
  | [], l => by simp
  | c :: cs, l => by
    have h1 := putC_len (k := k) (p := p) cs (putC k p l c)
    have h2 : (putC k p l c).length ≤ l.length + 1 := length_putK ..
    rw [List.foldl_cons, List.length_cons]
    omega
theorem numP_len {sts : List Stp} (h : ∀ s ∈ sts, s.2.2.length ≤ 3) : ∀ i, (numP sts i).length ≤ 3 * i
  | 0 => by simp [numP]
  | i + 1 => by
    have ih := numP_len h i
    unfold numP
    cases e : sts[i]? with
    | none => dsimp only; omega
    | some s =>
      dsimp only
      have h1 := putC_len (k := i) (p := s.2.1) s.2.2 (numP sts i)
      have h2 := h s (List.mem_of_getElem? e)
      omega
theorem numP_val {sts : List Stp} (hn : (sts.map fun s => s.2.1).Nodup) : ∀ (i k : Nat) (s : Stp), k < i → sts[k]? = some s → ∀ c ∈ s.2.2, valV (numP sts i) [.inr s.2.1, .inr c] = some (.int (k : Nat))
  | 0, _, _, h, _, _, _ => by omega
  | i + 1, k, s, h, hk, c, hc => by
    unfold numP
    cases e : sts[i]? with
    | none =>
      dsimp only
      refine numP_val hn i k s ?_ hk c hc
      have := (List.getElem?_eq_some_iff.mp hk).1
      have := List.getElem?_eq_none_iff.mp e
      omega
    | some s' =>
      dsimp only
      rw [putC_val]
      by_cases hki : k = i
      · subst hki
        rw [hk] at e
        cases e
        rw [if_pos ⟨rfl, hc⟩]
      · have hne : s.2.1 ≠ s'.2.1 := fun z => hki (by
          have h1 : (sts.map fun s => s.2.1)[k]? = some s.2.1 := by rw [List.getElem?_map, hk]; rfl
          have h2 : (sts.map fun s => s.2.1)[i]? = some s.2.1 := by rw [List.getElem?_map, e, z]; rfl
          exact (List.getElem?_inj (List.getElem?_eq_some_iff.mp h1).1 hn).mp (h1.trans h2.symm))
        rw [if_neg (fun z => hne z.1)]
        exact numP_val hn i k s (by omega) hk c hc
theorem numX_at {sts : List Stp} (hn : (sts.map fun s => s.2.1).Nodup) {k : Nat} {s : Stp} (hk : sts[k]? = some s) : numX sts s.2.1 = k := by
  obtain ⟨hlt, e⟩ := List.getElem?_eq_some_iff.mp hk
  unfold numX
  have h1 : sts.findIdx (fun t => decide (t.2.1 = s.2.1)) < sts.length := List.findIdx_lt_length_of_exists ⟨s, List.mem_of_getElem? hk, by simp⟩
  have h2 := List.findIdx_getElem (w := h1)
  have h2 := of_decide_eq_true h2
  have a1 : (sts.map fun s => s.2.1)[sts.findIdx (fun t => decide (t.2.1 = s.2.1))]? = some s.2.1 := by rw [List.getElem?_map, List.getElem?_eq_getElem h1]; exact congrArg some h2
  have a2 : (sts.map fun s => s.2.1)[k]? = some s.2.1 := by rw [List.getElem?_map, hk]; rfl
  exact (List.getElem?_inj (List.getElem?_eq_some_iff.mp a1).1 hn).mp (a1.trans a2.symm)
theorem num_all {sts : List Stp} (hn : (sts.map fun s => s.2.1).Nodup) (p c : Str) (h : ∃ s ∈ sts, s.2.1 = p ∧ c ∈ s.2.2) : valV (numP sts sts.length) [.inr p, .inr c] = some (.int (numX sts p : Nat)) := by
  obtain ⟨s, hs, rfl, hc⟩ := h
  obtain ⟨k, hk⟩ := List.mem_iff_getElem?.mp hs
  rw [numX_at hn hk]
  exact numP_val hn _ k s (List.getElem?_eq_some_iff.mp hk).1 hk c hc
theorem stepOf_p {cols : List Str} {one two : Rws} {p : Str} {s : Stp} (h : stepOf cols one two p = some s) : s.2.1 = p ∧ s.2.2 ⊆ cols ∧ s.2.2.length ≤ cols.length := by
  unfold stepOf stepsAt at h
  split at h
  · cases h
  · cases h
    exact ⟨rfl, fun c hc => (List.mem_filter.mp hc).1, List.length_filter_le ..⟩
theorem steps_nd (cols : List Str) (one two : Rws) : ((stepsL cols one two).map fun s => s.2.1).Nodup := by
  unfold stepsL
  have hn : (spots one two).Nodup := List.Pairwise.imp (R := ltS) (S := (· ≠ ·)) (fun {a b} h e => by subst e; exact ltS_irr a h) (pw_usrt _)
  generalize spots one two = l at hn
  induction l with
  | nil => simp
  | cons p l ih =>
    obtain ⟨h1, h2⟩ := List.nodup_cons.mp hn
    cases e : stepOf cols one two p with
    | none =>
      rw [List.filterMap_cons_none e]
      exact ih h2
    | some s =>
      rw [List.filterMap_cons_some e, List.map_cons, List.nodup_cons]
      refine ⟨fun hm => h1 ?_, ih h2⟩
      obtain ⟨t, ht, e2⟩ := List.mem_map.mp hm
      obtain ⟨q, hq, e3⟩ := List.mem_filterMap.mp ht
      rw [← (stepOf_p e).1, ← e2, (stepOf_p e3).1]
      exact hq
theorem steps_le (cols : List Str) (one two : Rws) : (stepsL cols one two).length ≤ (spots one two).length := List.length_filterMap_le ..
theorem steps_cols {cols : List Str} {one two : Rws} {s : Stp} (h : s ∈ stepsL cols one two) : s.2.2.length ≤ cols.length := by
  obtain ⟨q, _, e⟩ := List.mem_filterMap.mp h
  exact (stepOf_p e).2.2
end NS
set_option Elab.async false
set_option linter.all false
set_option maxRecDepth 100000
set_option maxHeartbeats 4000000
/-! An exchange made. -/
namespace NS
open PySem PySem.Spec PyProof.Rows L2 He
local macro_rules | `(tactic| walk_at "nf") => `(tactic| dsimp only [L2.tNext, L2.tSeq, L2.tDrop, L2.tRet, L2.tRetN, L2.tIfS, L2.tAsg, L2.gName, L2.gCons, L2.gNil, L2.gTup, L2.tOp, L2.tUn, L2.tTest, L2.tChain, L2.tB, L2.tAnd, L2.tOr, L2.tNot, L2.tAndV, L2.tOrV, L2.tNotV, L2.tIf, L2.tCB, L2.tNil, L2.tCons, L2.tTup, L2.tLst, L2.tFld, L2.sFld, L2.tCall, L2.tMeth, L2.tMake, L2.tBM, L2.tBM0, L2.tM1, L2.tM0, L2.tSl, L2.tPart, L2.tNoPart, L2.tPar, L2.tVar, L2.tC, L2.cxOf, L2.tYes, C8.tCut])
def FSents (K : PySem.W.Frag) (H : Hp) (x : Addr) (cols : List Str) (one two : Rws) : Prop := ∃ c vs, XF K H x "sentences" (.ref c) ∧ SqT K H c vs ∧ Paired (SntAt H) vs (sentsL cols one two)
structure ExAt (K : PySem.W.Frag) (H : Hp) (x : Addr) (cols : List Str) (one two : Rws) : Prop where
  col : FCols K H x cols
  held : FHeld K H x cols one two
  ans : FAns K H x one two
  spots : FSpots K H x (spots one two)
  div : FDiv K H x
  steps : FSteps K H x (stepsL cols one two)
  num : FNum K H x (stepsL cols one two)
  snt : FSents K H x cols one two
theorem Same.ex {K : PySem.W.Frag} {H H' : Hp} {x : Addr} {cols : List Str} {one two : Rws} (e : Same H H') (h : ExAt K H x cols one two) : ExAt K H' x cols one two :=
  ⟨Same.fcols e h.col, Same.fheld e h.held, Same.fans e h.ans, Same.fspots e h.spots, Same.fdiv e h.div, Same.fsteps e h.steps, Same.fnum e h.num, let ⟨c, vs, a, b, d⟩ := h.snt; ⟨c, vs, Same.xf e a, Same.tup e b, Paired.mapP d fun v q z => Same.snt e z⟩⟩
section
variable {P : Program} {w : World} {K : PySem.W.Frag} {mg : Str → Option Value} {base : Heap}
theorem makk_of {c qual : Str} {st : Stmt} {N ps : List Str} {k n : Nat} {sp : Sp} {ks : List Str} {gV : List V → List V → List V} {g : List Value → List Value → List Value} (mk : Mk K (ga K c) (ma K (ga K c) "__init__")) (hm : mg c = some (.ref (ga K c)))
    (hF : ∃ fd, FunD K "__init__" qual (defArgs st) (defBody st) (defScope st) [] [] (ma K (ga K c) "__init__") fd) (S : FnScope N ps (defScope st))
    (b : ∀ (kV doc pm : Value) (an : Option Addr) (cdv ct : Value) (us ws : List Value), us.length = n + 1 → ws.length = ks.length → bindArgs (PySem.W.fnOf "__init__" qual (defArgs st) (defBody st) (defScope st) .none kV doc pm an cdv ct) ⟨us, ks.zip ws⟩ = pure (ps.zip (g us ws)))
    (rel : ∀ {vs : List V} {us : List Value} {zs : List V} {ws : List Value}, Vals vs us → Vals zs ws → Vals (gV vs zs) (g us ws))
    (len : ∀ vs H Q E, sp vs H Q E → vs.length = ps.length) (hb : BodyOk P w K mg base N qual st (ma K (ga K c) "__init__") k sp) : MakK P w K mg base (k + 1) c (ga K c) sp n ks gV := by
  obtain ⟨fd, F⟩ := hF
  refine ⟨_, fd, ps, g, mk, fnd_ok F S len hb, hm, ⟨fun s us ws X l1 l2 => ?_, rel⟩⟩
  obtain ⟨oc, od, dV, kV, doc, pm, an, cdv, ct, osl, rfl, lk, hcd, hD, hK⟩ := F.ex
  rcases hD with ⟨_, rfl⟩ | ⟨e, _⟩
  · exact .of_eq (b kV doc pm an cdv ct us ws l1 l2)
  · exact absurd rfl e
theorem exf_snoc {fs : List (Str × V)} {f : Str} {v : V} (h : ∀ p ∈ fs, p.1 ∈ exFields) (hf : f ∈ exFields) : ∀ p ∈ fs ++ [(f, v)], p.1 ∈ exFields := fun p hp => by
  rcases List.mem_append.mp hp with z | z
  · exact h p z
  · rw [List.mem_singleton.mp z]; exact hf
/-- a field more: what is known -/
theorem stage {H H1 H2 : Hp} {x C dx : Addr} {fs : List (Str × V)} {f : Str} {v : V} {F : Hp → Prop} (g : But x H H1) (u : H1 x = some (.ins C dx fs)) (a : ∀ p ∈ fs, p.1 ∈ exFields) (kf : KF x F) (e : Same H1 H2) (hF : F H2) (hf : f ∈ exFields) (hn : f ∉ fs.map Prod.fst) :
    ∃ H3, upd H2 x (.ins C dx (putF f v fs)) = H3 ∧ But x H H3 ∧ H3 x = some (.ins C dx (fs ++ [(f, v)])) ∧ (∀ p ∈ fs ++ [(f, v)], p.1 ∈ exFields) ∧ F H3 := by
  refine ⟨_, rfl, (g.trans (Same.but e)).trans But.put, ?_, exf_snoc a hf, kf H2 _ ⟨C, dx, fs, e _ _ u, a⟩ But.put hF⟩
  rw [upd_same, putF_new hn]
theorem dcw_go {J : It} {n : Nat} {G : Hp → Prop} {Y : Nat → Hp → V → Hp → Prop} (wk : Walk J n G Y) {H0 : Hp} {Stop : Hp → Prop} {step : (Hp → Prop) → V → Hp → Prop} (Pv : Nat → Hp → Prop) (h0 : Pv 0 H0) (hG : ∀ i H, i ≤ n → Pv i H → G H)
    (hs : ∀ i x H H', i < n → Pv i H → Y i H x H' → step (Pv (i + 1)) x H') (hd : ∀ H, Pv n H → Stop H) :
    ∃ W : Nat → Nat → Hp → Prop, (∃ m, W 0 m H0) ∧ ∀ i m H, W i m H → (J.stop i H ∧ Stop H) ∨ (J.go i H ∧ ∃ Nx : Hp → Prop, (∀ H', Nx H' → ∃ m', m' < m ∧ W (i + 1) m' H') ∧ ∀ x H', J.yld i H x H' → step Nx x H') := by
  refine ⟨fun i m H => m = n - i ∧ i ≤ n ∧ Pv i H, ⟨n, by simp, Nat.zero_le _, h0⟩, ?_⟩
  rintro i m H ⟨rfl, hi, p⟩
  have q := hG i H hi p
  by_cases hlt : i < n
  · exact .inr ⟨wk.goes i H hlt q, Pv (i + 1), fun H' p' => ⟨n - (i + 1), by omega, rfl, hlt, p'⟩, fun x H' y => hs i x H H' hlt p (wk.yields i H x H' hlt q y)⟩
  · have e : i = n := by omega
    subst e
    exact .inl ⟨wk.stops H q, hd H p⟩
theorem catA_go {H : Hp} {Q : VK} {a b : Addr} {xs ys : List V} (h1 : SqT K H a xs) (h2 : SqT K H b ys) (hl : xs.length + ys.length ≤ sizeLine) (k : ∀ r H', Same H H' → SqT K H' r (xs ++ ys) → Q (.ref r) H') : rCatA K (.ref a) (.ref b) H Q :=
  ⟨a, b, xs, ys, rfl, rfl, h1, h2, hl, fun e => k b H (Same.refl _) (by rw [e]; exact h2), fun _ e => k a H (Same.refl _) (by rw [e, List.append_nil]; exact h1), fun _ _ p hp => k p _ ((Same.refl _).new hp) (SqT.of upd_same)⟩
theorem setT_go {H : Hp} {Q : VK} {l : Addr} {ss : List Str} (h : SqL K H l (ss.map V.str) ∨ SqT K H l (ss.map V.str)) (hl : ss.length < 64) (k : ∀ p, H p = none → Q (.ref p) (upd H p (SetTO w p ss))) : rSetT K w [.ref l] H Q := ⟨l, ss, rfl, h, hl, k⟩
theorem sortedT_go {H : Hp} {Q : VK} {a : Addr} {L : List Str} (h : H a = some (SetTO w a L)) (hl : L.length < 64) (k : ∀ p, H p = none → Q (.ref p) (upd H p (.lst ((usrt L).map V.str)))) : rSortedT w [.ref a] H Q :=
  ⟨a, L, rfl, h, hl, fun p hp ss hs hn hm _ => by rw [usrt_mem hs hn hm]; exact k p hp⟩
def sp_Ex_init (K : PySem.W.Frag) : Sp := fun vs H Q _ => ∃ x t1 t2 dv dx cols one two, vs = [.ref x, .ref t1, .ref t2, .ref dv] ∧ H x = some (.ins (ga K "Exchange") dx []) ∧ TableAt K H t1 cols one ∧ TableAt K H t2 cols two ∧ SqL K H dv [] ∧ OkCols cols ∧ OkRows cols one ∧ OkRows cols two ∧
  (spots one two).length ≤ 40 ∧ (∀ p ∈ spots one two, PlaceS p) ∧ ∀ H', But x H H' → ExAt K H' x cols one two → Q .non H'
theorem sc_Exchange_init : FnScope ["self", "first", "second", "divided", "k", "step", "column"] ["self", "first", "second", "divided"] (defScope sExchange_init) := ⟨rfl, rfl, rfl, by decide +kernel, rfl, by decide +kernel, by decide +kernel⟩
theorem okK_Exchange_init (T : Tx K mg) : MakK P w K mg base 10 "Exchange" (ga K "Exchange") (sp_Ex_init K) 2 ["divided"] (fun vs zs => vs ++ zs) := by
  refine makk_of (g := fun us ws => us ++ ws) T.mk_Exchange T.g_Exchange T.f_Exchange_init sc_Exchange_init (fun _ _ _ _ _ _ us ws h1 h2 => match us, h1, ws, h2 with | [_, _, _], _, [_], _ => rfl) (fun r1 r2 => r1.append r2) (fun vs H Q E h => ?_) (fun cdv A outer s H vs Q E hr h => ?_)
  · obtain ⟨x, t1, t2, dv, dx, cols, one, two, rfl, _⟩ := h
    rfl
  · obtain ⟨x, t1, t2, dv, dx, cols, one, two, rfl, hx, ht1, ht2, hdv, hc, h1, h2, hl, hpl, k⟩ := h
    have nd := sc_Exchange_init.nd
    have hu := hu_of hr
    refine ⟨_, (pss_cons (ps_if (pt_cmpR (op_neD hr.units) (pe_fld (pv 1) rfl) (pe_fld (pv 2) rfl) (nomark _)) (pss_one ps_never) pss_nil)
      (pss_cons (ps_fld (pv 0) (pe_fld (pv 1) rfl) rfl)
      (pss_cons (ps_fld (pv 0) (pe_tup (pa_cons (C8.pe_mt0 (ok_Table_copy T) hr (by decide) (pv 1)) (pa_cons (C8.pe_mt0 (ok_Table_copy T) hr (by decide) (pv 2)) pa_nil))) rfl)
      (pss_cons (ps_fld (pv 0) (pe_tup (pa_cons (C8.pe_c (ok_answers_of T) hr (by decide) rfl (pa_cons (pv 1) pa_nil)) (pa_cons (C8.pe_c (ok_answers_of T) hr (by decide) rfl (pa_cons (pv 2) pa_nil)) pa_nil))) rfl)
      (pss_cons (ps_fld (pv 0) (pe_callTy call_tuple_of (by rfl) T.z_tuple (by decide +kernel) (pa_cons (pe_callB (cr_sortedT rfl) (by rfl) T.z_sorted (by decide +kernel) (pa_cons (pe_callTy (cr_setT rfl) (by rfl) T.z_set (by decide +kernel) (pa_cons (pe_op op_catA (pe_propC (ok_Table_places T) hr (by decide) (pv 1)) (pe_propC (ok_Table_places T) hr (by decide) (pv 2))) pa_nil)) pa_nil)) pa_nil)) rfl)
      (pss_cons (ps_if (pt_cmpR op_gt (pe_callB call_len_seq (by rfl) T.z_len (by decide +kernel) (pa_cons (pe_fld (pv 0) rfl) pa_nil)) (ClX.pe_cval (pe_glob (v := .ref (ga K "Table")) rfl T.g_Table rfl)) (nomark _)) (pss_one ps_never) pss_nil)
      (pss_cons (ps_fld (pv 0) (C8.pe_mt (ok_Exchange_places_divided T) hr (by decide) (pv 0) (pa_cons (pv 3) pa_nil)) rfl)
      (pss_cons (ps_fld (pv 0) (pe_callTy call_tuple_of (by rfl) T.z_tuple (by decide +kernel) (pa_cons (C8.pe_mt0 (ok_Exchange_steps_told T) hr (by decide) (pv 0)) pa_nil)) rfl)
      (pss_cons (ps_fld (pv 0) (pe_dc2 (own := [("k", 4), ("step", 5), ("column", 6)]) (vs1 := [6]) rfl nd (uc_of hr) (pi_enumA rfl T.z_enumerate (pa_cons (pe_fld (pv 0) rfl) pa_nil)) (blkOk_by (by kernel_rfl)) (by decide) (fun _ _ _ _ _ => (show PG _ _ (gTup K 2 _) from pg_tup (by rfl) (pgs_cons (pg_name (i := 4) nd rfl (Or.inl rfl)) (pgs_cons (pg_name (i := 5) nd rfl (Or.inl rfl)) pgs_nil)))) (fun _ _ _ _ _ => (show PI _ _ _ (iTup K _) from pi_tup (show PE _ _ (tFld K (tVar 5) "columns") from pe_fld (pv 5) rfl))) (fun _ _ _ _ _ => (pg_name (i := 6) nd rfl (Or.inl rfl))) (fun _ _ _ _ _ => (pe_tup (pa_cons (show PE _ _ (tFld K (tVar 5) "place") from pe_fld (pv 5) rfl) (pa_cons (pv 6) pa_nil)))) (fun _ _ _ _ _ => (pv 4))) rfl)
      (pss_one (ps_fld (pv 0) (pe_callTy call_tuple_of (by rfl) T.z_tuple (by decide +kernel) (pa_cons (C8.pe_mt0 (ok_Exchange_sentences_told T) hr (by decide) (pv 0)) pa_nil)) rfl))))))))))), ?_⟩
    walk_at "nf"
    obtain ⟨dx1, ct1, rd1, a1, a2, a3⟩ := ht1.ex
    obtain ⟨dx2, ct2, rd2, b1, b2, b3⟩ := ht2.ex
    have hshp : SeqAt.shaped (.tuple (cols.map .str)) = true := (Shp.tuple (n := 0) fun d hd => by
      obtain ⟨c, hc1, rfl⟩ := List.mem_map.mp hd
      obtain ⟨n, rfl, hn⟩ := hc.nm c hc1
      exact shp_nm hn).ok (by decide)
    have heq : PyData.eqv (.tuple (cols.map .str)) (.tuple (cols.map .str)) = true := PySem.SeqAt.eqv_refl _ (Shp.tuple (n := 0) fun d hd => by
      obtain ⟨c, hc1, rfl⟩ := List.mem_map.mp hd
      obtain ⟨n, rfl, hn⟩ := hc.nm c hc1
      exact shp_nm hn).1
    refine ⟨_, rfl, t1, _, dx1, _, _, rfl, a1, T.cl_Table, T.n_Table_columns, by rfl, _, rfl, t2, _, dx2, _, _, rfl, b1, T.cl_Table, T.n_Table_columns, by rfl, _, _, .tup a2 (dp_strs _), .tup b2 (dp_strs _), hshp, hshp, _, rfl, ?_⟩
    rw [heq]
    refine iteF ⟨_, rfl, t1, _, dx1, _, _, rfl, a1, T.cl_Table, T.n_Table_columns, by rfl, _, rfl, x, _, dx, _, rfl, hx, T.cl_Exchange, T.n_Exchange_columns, by decide, ?_⟩
    have F1 : KF x (fun H => TableAt K H t1 cols one ∧ TableAt K H t2 cols two ∧ SqL K H dv [] ∧ SqT K H ct1 (cols.map V.str)) := .and kf_table (.and kf_table (.and kf_sql kf_sqt))
    obtain ⟨H1, e1, g1, u1, A1, p1, p2, p3, p4⟩ := stage (v := .ref ct1) (f := "columns") (fun b o _ e => e : But x H H) hx (fun p hp => by cases hp) F1 (Same.refl H) ⟨ht1, ht2, hdv, a2⟩ (by decide +kernel) (by simp)
    rw [e1]
    -- held
    obtain ⟨dxa, cta, rda, q1, _⟩ := p1.ex
    refine ⟨_, rfl, t1, dxa, _, rfl, q1, rfl, t1, cols, one, rfl, p1, hc, h1, fun H2 ua e2 hua0 hua => ?_⟩
    have p2' := Same.table e2 p2
    obtain ⟨dxb, ctb, rdb, q2, _⟩ := p2'.ex
    refine ⟨_, rfl, t2, dxb, _, rfl, q2, rfl, t2, cols, two, rfl, p2', hc, h2, fun H3 ub e3 hub0 hub => ⟨(by show 2 ≤ sizeLine; decide), fun hh hhn => ?_⟩⟩
    have e4 : Same H1 (upd H3 hh (.tup [.ref ua, .ref ub])) := (e2.trans e3).new hhn
    have e5 : Same H3 (upd H3 hh (.tup [.ref ua, .ref ub])) := (Same.refl _).new hhn
    refine ⟨_, rfl, x, _, dx, _, rfl, e4 _ _ u1, T.cl_Exchange, T.n_Exchange_held, (by show 1 < 1000; decide), ?_⟩
    have F2 := KF.and F1 (.and (kf_sqt (K := K) (x := x) (a := hh) (xs := [.ref ua, .ref ub])) (.and (kf_table (K := K) (t := ua) (cols := cols) (rows := one)) (kf_table (K := K) (t := ub) (cols := cols) (rows := two))))
    obtain ⟨H4, ee, g4, u4, A4, ⟨p1, p2, p3, p4⟩, r1, r2, r3⟩ := stage (v := .ref hh) (f := "held") g1 u1 A1 F2 e4 ⟨⟨Same.table e4 p1, Same.table e4 p2, Same.sql e4 p3, Same.tup e4 p4⟩, SqT.of upd_same, Same.table (e3.trans e5) hua, Same.table e5 hub⟩ (by decide +kernel) (by show ("held" : Str) ∉ (["columns"] : List Str); decide +kernel)
    rw [ee]
    -- answers
    refine ⟨_, rfl, t1, cols, one, rfl, p1, hc, h1, fun H5 d1 e6 hd1n hd1 => ⟨_, rfl, t2, cols, two, rfl, Same.table e6 p2, hc, h2, fun H6 d2 e7 hd2n hd2 => ⟨(by show 2 ≤ sizeLine; decide), fun aa haan => ?_⟩⟩⟩
    have e9 : Same H6 (upd H6 aa (.tup [.ref d1, .ref d2])) := (Same.refl _).new haan
    have e8 : Same H4 (upd H6 aa (.tup [.ref d1, .ref d2])) := (e6.trans e7).trans e9
    refine ⟨_, rfl, x, _, dx, _, rfl, e8 _ _ u4, T.cl_Exchange, T.n_Exchange_answers, (by show 2 < 1000; decide), ?_⟩
    have F3 := KF.and F2 (.and (kf_sqt (K := K) (x := x) (a := aa) (xs := [.ref d1, .ref d2])) (.and (kf_ans (d := d1) (rows := one)) (kf_ans (d := d2) (rows := two))))
    have x4 : XB H4 x := ⟨_, _, _, u4, A4⟩
    obtain ⟨H7, ee, g7, u7, A7, f7⟩ := stage (v := .ref aa) (f := "answers") g4 u4 A4 F3 e8 ⟨F2.same x4 e8 ⟨⟨p1, p2, p3, p4⟩, r1, r2, r3⟩, SqT.of upd_same, Same.ans (e7.trans e9) hd1, Same.ans e9 hd2⟩ (by decide +kernel) (by show ("answers" : Str) ∉ (["columns", "held"] : List Str); decide +kernel)
    rw [ee]
    have x7 : XB H7 x := ⟨_, _, _, u7, A7⟩
    -- spots
    have p1 := f7.1.1.1
    have p2 := f7.1.1.2.1
    obtain ⟨dxa, cta, rda, q1, _⟩ := p1.ex
    dsimp only [tPrp, L2.tVar]
    refine ⟨_, rfl, t1, dxa, _, rfl, q1, t1, cols, one, rfl, p1, h1, fun H8 pa e10 hpa0 hpa => ?_⟩
    have p2' := Same.table e10 p2
    obtain ⟨dxb, ctb, rdb, q2, _⟩ := p2'.ex
    refine ⟨_, rfl, t2, dxb, _, rfl, q2, t2, cols, two, rfl, p2', h2, fun H9 pb e11 hpb0 hpb => ?_⟩
    have hl1 := h1.le
    have hl2 := h2.le
    refine catA_go (Same.tup e11 (SqT.of hpa)) (SqT.of hpb) (by simp only [List.length_map, sizeLine_eq]; omega) fun tc HA eA hcat => ?_
    rw [← List.map_append] at hcat
    refine setT_go (.inr hcat) (by simp only [List.length_append, List.length_map]; omega) fun ps hps => ?_
    refine sortedT_go upd_same (by simp only [List.length_append, List.length_map]; omega) fun pl hpl0 => ?_
    have eB : Same H7 (upd (upd HA ps (SetTO w ps (one.map Prod.fst ++ two.map Prod.fst))) pl (.lst ((usrt (one.map Prod.fst ++ two.map Prod.fst)).map V.str))) := (((e10.trans e11).trans eA).new hps).new hpl0
    have hlst : upd (upd HA ps (SetTO w ps (one.map Prod.fst ++ two.map Prod.fst))) pl (.lst ((usrt (one.map Prod.fst ++ two.map Prod.fst)).map V.str)) pl = some (.lst ((spots one two).map V.str)) := upd_same
    generalize upd (upd HA ps (SetTO w ps (one.map Prod.fst ++ two.map Prod.fst))) pl (.lst ((usrt (one.map Prod.fst ++ two.map Prod.fst)).map V.str)) = HB at eB hlst
    refine ⟨pl, _, rfl, .inl ⟨SqL.of hlst, fun ss hss => ?_⟩⟩
    have eC : Same H7 (upd HB ss (.tup ((spots one two).map V.str))) := eB.new hss
    refine ⟨_, rfl, x, _, dx, _, rfl, eC _ _ u7, T.cl_Exchange, T.n_Exchange_spots, (by show 3 < 1000; decide), ?_⟩
    have F4 := KF.and F3 (kf_sqt (K := K) (x := x) (a := ss) (xs := (spots one two).map V.str))
    obtain ⟨HD, ee, gD, uD, AD, fD⟩ := stage (v := .ref ss) (f := "spots") g7 u7 A7 F4 eC ⟨F3.same x7 eC f7, SqT.of upd_same⟩ (by decide +kernel) (by show ("spots" : Str) ∉ (["columns", "held", "answers"] : List Str); decide +kernel)
    rw [ee]
    have xD : XB HD x := ⟨_, _, _, uD, AD⟩
    -- len
    obtain ⟨cr, uu, cv⟩ := T.most
    dsimp only [ClX.tCVal, L2.tC, L2.rI0]
    refine ⟨_, rfl, x, _, dx, _, _, rfl, uD, T.cl_Exchange, T.n_Exchange_spots, by rfl, ss, _, rfl, .inr fD.2, _, _, _, _, rfl, cr, cv, _, _, rfl, rfl, _, rfl, ?_⟩
    rw [List.length_map, decide_eq_false (show ¬ ((40 : Int) < ((spots one two).length : Nat)) by omega)]
    refine iteF ?_
    -- divided
    refine ⟨_, rfl, x, dx, _, rfl, uD, by rfl, _, rfl, x, dv, spots one two, rfl, fD.1.1.1.2.2.1, ⟨ss, ⟨dx, _, uD, by rfl, AD⟩, fD.2⟩, hl, fun HE dd eE hddn hdd => ?_⟩
    refine ⟨_, rfl, x, _, dx, _, rfl, eE _ _ uD, T.cl_Exchange, T.n_Exchange_divided, (by show 4 < 1000; decide), ?_⟩
    have F5 := KF.and F4 (kf_sqt (K := K) (x := x) (a := dd) (xs := []))
    obtain ⟨HF, ee, gF, uF, AF, fF⟩ := stage (v := .ref dd) (f := "divided") gD uD AD F5 eE ⟨F4.same xD eE fD, SqT.of hdd⟩ (by decide +kernel) (by show ("divided" : Str) ∉ (["columns", "held", "answers", "spots"] : List Str); decide +kernel)
    rw [ee]
    have xF : XB HF x := ⟨_, _, _, uF, AF⟩
    -- steps
    refine ⟨_, rfl, x, dx, _, rfl, uF, by rfl, x, cols, one, two, rfl, ⟨hh, ua, ub, ⟨dx, _, uF, by rfl, AF⟩, fF.1.1.1.2.1, fF.1.1.1.2.2.1, fF.1.1.1.2.2.2⟩, ⟨ct1, ⟨dx, _, uF, by rfl, AF⟩, fF.1.1.1.1.2.2.2⟩, ⟨ss, ⟨dx, _, uF, by rfl, AF⟩, fF.1.2⟩, ⟨dd, ⟨dx, _, uF, by rfl, AF⟩, fF.2⟩, hc, h1, h2, fun HG ll as eG hlln hll hsts => ?_⟩
    refine ⟨ll, _, rfl, .inl ⟨SqL.of hll, fun st hst0 => ?_⟩⟩
    have eH : Same HF (upd HG st (.tup (as.map V.ref))) := eG.new hst0
    refine ⟨_, rfl, x, _, dx, _, rfl, eH _ _ uF, T.cl_Exchange, T.n_Exchange_steps, (by show 5 < 1000; decide), ?_⟩
    have F6 := KF.and F5 (.and (kf_sqt (K := K) (x := x) (a := st) (xs := as.map V.ref)) (kf_steps (K := K) (as := as) (sts := stepsL cols one two)))
    obtain ⟨HI, ee, gI, uI, AI, fI⟩ := stage (v := .ref st) (f := "steps") gF uF AF F6 eH ⟨F5.same xF eH fF, SqT.of upd_same, Same.steps ((Same.refl _).new hst0) hsts⟩ (by decide +kernel) (by show ("steps" : Str) ∉ (["columns", "held", "answers", "spots", "divided"] : List Str); decide +kernel)
    rw [ee]
    have xI : XB HI x := ⟨_, _, _, uI, AI⟩
    -- numbers
    dsimp only [tDc2, iEnumA, L2.tCons, L2.tNil, L2.tFld, L2.tVar]
    refine ⟨_, rfl, x, _, dx, _, _, rfl, uI, T.cl_Exchange, T.n_Exchange_steps, by rfl, st, _, rfl, .inr ⟨fI.2.1, fun D hDn => ?_⟩⟩
    refine dcw_go (walk_enumT (K := K) (a := st) (xs := as.map V.ref)) (fun i H' => Same HI H' ∧ H' D = some (.dT (numP (stepsL cols one two) i))) ⟨(Same.refl _).new hDn, upd_same⟩ (fun i H' _ ⟨e, _⟩ => Same.tup e fI.2.1) ?_ ?_
    · rintro i v H0 H2 hi ⟨e, hD⟩ ⟨T0, v1, v2, rfl, hT0, rfl, hv1, hv2⟩
      obtain rfl : V.int i = v1 := Option.some.inj hv1
      have hv2 : (as.map V.ref)[i]? = some v2 := hv2
      rw [List.getElem?_map] at hv2
      obtain ⟨ai, hai, rfl⟩ := Option.map_eq_some_iff.mp hv2
      have hlen := fI.2.2.len
      obtain ⟨si, hsi⟩ : ∃ si, (stepsL cols one two)[i]? = some si := by
        have := (List.getElem?_eq_some_iff.mp hai).1
        exact ⟨_, List.getElem?_eq_getElem (by omega)⟩
      obtain ⟨C, dx', ct', hh', s1, s2, s3, s4, s5, s6⟩ := (fI.2.2.at_ i ai si hai hsi).ex
      have e' : Same HI (upd H0 T0 (.tup [.int i, .ref ai])) := e.new hT0
      have hD' : upd H0 T0 (.tup [.int i, .ref ai]) D = some (.dT (numP (stepsL cols one two) i)) := by rw [upd_ne (ne_of_none hD hT0)]; exact hD
      have hil : i < 40 := by
        have h1 := (List.getElem?_eq_some_iff.mp hsi).1
        have h2 := steps_le cols one two
        omega
      have hnl := numP_len (sts := stepsL cols one two) (fun s hs => Nat.le_trans (steps_cols hs) hc.le) i
      have hsl : si.2.2.length ≤ 3 := Nat.le_trans (steps_cols (List.mem_of_getElem? hsi)) hc.le
      dsimp only [L2.gTup, L2.gCons, L2.gNil, L2.gName]
      refine ⟨T0, _, rfl, SqT.of upd_same, rfl, .int i, [_], rfl, _, [], rfl, rfl, rfl, ?_⟩
      dsimp only [tIn2, L2.iTup, L2.tFld, L2.tVar]
      refine ⟨_, rfl, ai, C, dx', _, _, rfl, e' _ _ s1, s2, s5, by rfl, ct', rfl, ⟨_, Same.tup e' s6⟩, ?_⟩
      refine dcw_go (walk_tup (K := K) (a := ct') (xs := si.2.2.map V.str)) (fun j H' => Same HI H' ∧ H' D = some (.dT ((si.2.2.take j).foldl (putC i si.2.1) (numP (stepsL cols one two) i)))) ⟨e', hD'⟩ (fun j H' _ ⟨e, _⟩ => Same.tup e s6) ?_ ?_
      · rintro j c H3 H4 hj ⟨e3, hD3⟩ ⟨rfl, hcj⟩
        obtain ⟨cc, hcc, rfl⟩ := get_map_str hcj
        dsimp only [L2.gName, L2.tTup, L2.tCons, L2.tNil, L2.tFld, L2.tVar]
        refine ⟨rfl, _, rfl, ai, C, dx', _, _, rfl, e3 _ _ s1, s2, s4, by rfl, _, rfl, (by show 2 ≤ sizeLine; decide), fun tk htk => ⟨_, rfl, tk, _, [.inr si.2.1, .inr cc], rfl, upd_same, (upd_ne (ne_of_none hD3 htk)).trans hD3, ?_, ?_, ?_⟩⟩
        · have h1 := putC_len (k := i) (p := si.2.1) (si.2.2.take j) (numP (stepsL cols one two) i)
          have h2 : (si.2.2.take j).length ≤ si.2.2.length := by rw [List.length_take]; exact Nat.min_le_right ..
          rw [sizeLine_eq]
          omega
        · exact fun b o hb => by
            rw [upd_ne (ne_of_none hb hDn)]
            exact (e3.new htk) b o hb
        · rw [upd_same, List.take_succ, hcc, List.foldl_append]
          rfl
      · rintro H' ⟨e3, hD3⟩
        refine ⟨e3, ?_⟩
        rw [List.length_map, List.take_length] at hD3
        rw [hD3]
        conv => rhs; unfold numP
        rw [hsi]
    · rintro H' ⟨e, hD⟩
      have hlen := fI.2.2.len
      rw [List.length_map, hlen] at hD
      refine ⟨_, rfl, x, _, dx, _, rfl, e _ _ uI, T.cl_Exchange, T.n_Exchange_numbers, (by show 6 < 1000; decide), ?_⟩
      have F7 := KF.and F6 (kf_dT (x := x) (n := D) (kvs := numP (stepsL cols one two) (stepsL cols one two).length))
      obtain ⟨HJ, ee, gJ, uJ, AJ, fJ⟩ := stage (v := .ref D) (f := "numbers") gI uI AI F7 e ⟨F6.same xI e fI, hD⟩ (by decide +kernel) (by show ("numbers" : Str) ∉ (["columns", "held", "answers", "spots", "divided", "steps"] : List Str); decide +kernel)
      rw [ee]
      have xJ : XB HJ x := ⟨_, _, _, uJ, AJ⟩
      -- sentences
      refine ⟨_, rfl, x, dx, _, rfl, uJ, by rfl, x, cols, one, two, rfl, ⟨ss, ⟨dx, _, uJ, by rfl, AJ⟩, fJ.1.1.1.2⟩, ⟨ct1, ⟨dx, _, uJ, by rfl, AJ⟩, fJ.1.1.1.1.1.1.2.2.2⟩, ⟨aa, d1, d2, ⟨dx, _, uJ, by rfl, AJ⟩, fJ.1.1.1.1.2.1, fJ.1.1.1.1.2.2.1, fJ.1.1.1.1.2.2.2⟩,
        ⟨D, _, ⟨dx, _, uJ, by rfl, AJ⟩, fJ.2, fun p c hh => num_all (steps_nd cols one two) p c hh⟩, hc, hl, hpl, fun HK sl vs' eK hsl0 hsl hsnt => ?_⟩
      refine ⟨sl, _, rfl, .inl ⟨SqL.of hsl, fun sn hsn => ?_⟩⟩
      have eL : Same HJ (upd HK sn (.tup vs')) := eK.new hsn
      refine ⟨_, rfl, x, _, dx, _, rfl, eL _ _ uJ, T.cl_Exchange, T.n_Exchange_sentences, (by show 7 < 1000; decide), ?_⟩
      have F8 := KF.and F7 (.and (kf_sqt (K := K) (x := x) (a := sn) (xs := vs')) (kf_snt (vs := vs') (l := sentsL cols one two)))
      obtain ⟨HM, ee, gM, uM, AM, fM⟩ := stage (v := .ref sn) (f := "sentences") gJ uJ AJ F8 eL ⟨F7.same xJ eL fJ, SqT.of upd_same, Paired.mapP hsnt fun v q z => Same.snt ((Same.refl _).new hsn) z⟩ (by decide +kernel) (by show ("sentences" : Str) ∉ (["columns", "held", "answers", "spots", "divided", "steps", "numbers"] : List Str); decide +kernel)
      rw [ee]
      have hf := fM.1
      exact k HM gM ⟨⟨ct1, ⟨dx, _, uM, by rfl, AM⟩, hf.1.1.1.1.1.1.2.2.2⟩, ⟨hh, ua, ub, ⟨dx, _, uM, by rfl, AM⟩, hf.1.1.1.1.1.2.1, hf.1.1.1.1.1.2.2.1, hf.1.1.1.1.1.2.2.2⟩, ⟨aa, d1, d2, ⟨dx, _, uM, by rfl, AM⟩, hf.1.1.1.1.2.1, hf.1.1.1.1.2.2.1, hf.1.1.1.1.2.2.2⟩,
        ⟨ss, ⟨dx, _, uM, by rfl, AM⟩, hf.1.1.1.2⟩, ⟨dd, ⟨dx, _, uM, by rfl, AM⟩, hf.1.1.2⟩, ⟨st, as, ⟨dx, _, uM, by rfl, AM⟩, hf.1.2.1, hf.1.2.2⟩, ⟨D, _, ⟨dx, _, uM, by rfl, AM⟩, hf.2, fun p c hh => num_all (steps_nd cols one two) p c hh⟩, ⟨sn, vs', ⟨dx, _, uM, by rfl, AM⟩, fM.2.1, fM.2.2⟩⟩
end
end NS
set_option Elab.async false
set_option linter.all false
set_option maxRecDepth 100000
set_option maxHeartbeats 4000000
/-! The law's tables and exchange. -/
namespace NS
open PySem PySem.Spec PyProof.Rows L2 He
local macro_rules | `(tactic| walk_at "nf") => `(tactic| dsimp only [L2.tNext, L2.tSeq, L2.tDrop, L2.tRet, L2.tRetN, L2.tIfS, L2.tAsg, L2.gName, L2.gCons, L2.gNil, L2.gTup, L2.tOp, L2.tUn, L2.tTest, L2.tChain, L2.tB, L2.tAnd, L2.tOr, L2.tNot, L2.tAndV, L2.tOrV, L2.tNotV, L2.tIf, L2.tCB, L2.tNil, L2.tCons, L2.tTup, L2.tLst, L2.tFld, L2.sFld, L2.tCall, L2.tMeth, L2.tMake, L2.tBM, L2.tBM0, L2.tM1, L2.tM0, L2.tSl, L2.tPart, L2.tNoPart, L2.tPar, L2.tVar, L2.tC, L2.cxOf, L2.tYes, C8.tCut])
/-- the keys of a dict, locked: what a comprehension over them does; what is known hangs on the heap -/
theorem lc_keysH {κs : List (Key × V)} {H : Hp} {d : Addr} {g : TG} {tt : TT} {te : TE} {vs : List Nat} {σ : L2.St} {td : TE} {Qd : VK} (hd : H d = some (.dK κs))
    (htd : ∀ (od : Obj) (F : VK), F (.ref d) (upd H d (.frz od (.dK κs))) → td σ (upd H d (.frz od (.dK κs))) F) (R : Nat → List V → Hp → Prop)
    (h0 : ∀ (od : Obj) (D : Addr), R 0 [] (upd (upd H d (.frz od (.dK κs))) D (.lst []))) (hs : ∀ (od : Obj) (D i : Nat) k v H' acc, D ≠ d → upd H d (.frz od (.dK κs)) D = none → κs[i]? = some (k, v) → Same (upd H d (.frz od (.dK κs))) H' → H' D = some (.lst acc) → acc.length ≤ i → R i acc H' →
      g (kV k) (wipe σ vs) H' fun σ2 H2 => wipe σ2 vs = wipe σ vs ∧ tt σ2 H2 fun b H3 =>
        if b = true then te σ2 H3 fun y H4 => ∃ acc, H4 D = some (.lst acc) ∧ acc.length < sizeLine ∧ PvL (upd H d (.frz od (.dK κs))) D R (i + 1) (upd H4 D (.lst (acc ++ [y]))) else PvL (upd H d (.frz od (.dK κs))) D R (i + 1) H3)
    (hq : ∀ (od : Obj) D H' acc, H D = none → Same H (upd H' d (.dK κs)) → H' d = some (.frz od (.dK κs)) → D ≠ d → H' D = some (.lst acc) → acc.length ≤ κs.length → R κs.length acc H' → Qd (.ref D) (upd H' d (.dK κs))) : tLockE (tLc (iKeys td) g tt te vs) σ H Qd := by
  refine ⟨d, _, hd, True.intro, fun od => ?_⟩
  unfold L2.tLc L2.iKeys
  refine htd od _ ⟨d, od, rfl, .inl ⟨κs, upd_same, fun D hD => ?_⟩⟩
  have hDd : D ≠ d := fun e => by rw [e, upd_same] at hD; cases hD
  have hDn : H D = none := by rw [upd_ne hDd] at hD; exact hD
  refine lc_it walk_keys (PvL (upd H d (.frz od (.dK κs))) D R) ⟨[], upd_same, (Same.refl _).new hD, Nat.zero_le _, h0 od D⟩ (fun i H' _ ⟨_, _, e, _⟩ => e _ _ upd_same) ?_ ?_
  · rintro i x H' H2 hi ⟨acc, hDD, e, hl, r⟩ ⟨e0, k, v, hk, rfl⟩
    rw [e0]
    exact hs od D i k v H' acc hDd hD hk e hDD hl r
  · rintro H' ⟨acc, hDD, e, hl, r⟩
    exact ⟨e _ _ upd_same, hq od D _ acc hDn (Same.unlock hd e) (e _ _ upd_same) hDd hDD hl r⟩
theorem mergeK_nd : ∀ (more acc : List (Key × V)), ((acc ++ more).map Prod.fst).Nodup → mergeK acc more = acc ++ more
  | [], acc, _ => by simp [mergeK]
  | x :: r, acc, h => by
    have hx : valV acc x.1 = none := by
      have := valV_not (f := (id : Key × V → Key × V)) (k := x.1) (l := acc) fun y hy e => by
        rw [List.map_append, List.map_cons, List.nodup_append] at h
        exact h.2.2 y.1 (List.mem_map_of_mem hy) x.1 (List.mem_cons_self ..) e
      rw [List.map_id] at this
      exact this
    show mergeK (putK acc x.1 x.2) r = _
    rw [putK_new _ hx, mergeK_nd r (acc ++ [(x.1, x.2)]) (by simpa using h)]
    simp
theorem paired_ix {α β : Type} {R : α → β → Prop} : ∀ {xs : List α} {ys : List β}, xs.length = ys.length → (∀ (i : Nat) a b, xs[i]? = some a → ys[i]? = some b → R a b) → Paired R xs ys
  | [], [], _, _ => .nil
  | [], _ :: _, h, _ => by cases h
  | _ :: _, [], h, _ => by cases h
  | x :: xs, y :: ys, h, r => .cons (r 0 x y rfl rfl) (paired_ix (by simpa using h) fun i a b h1 h2 => r (i + 1) a b h1 h2)
theorem RowsAt.apart {H : Hp} {d a : Addr} {rows : Rws} {c : Cells} (h : RowsAt H d rows) (ha : H a = some (cO c)) (hc : c ≠ []) : a ≠ d := fun e => by
  obtain ⟨kvs', h1, h2, h3, h4⟩ := h.opn
  rw [e, h1] at ha
  have e2 : kvs' = c.map fun c => ((Sum.inr c.1 : Key), V.str c.2) := HO.dK.inj (Option.some.inj ha)
  cases c with
  | nil => exact hc rfl
  | cons x l =>
    obtain ⟨_, _, _, _, q3, _⟩ := h4 0 (.inr x.1) (.str x.2) (by rw [e2]; rfl)
    cases q3
def siteK (lc d1 d2 ld : Addr) : List (Key × V) := [(.inr "columns", .ref lc), (.inr "first", .ref d1), (.inr "second", .ref d2), (.inr "divided", .ref ld)]
theorem site_c {lc d1 d2 ld : Addr} : valV (siteK lc d1 d2 ld) (.inr "columns") = some (.ref lc) := valV_pos rfl
theorem site_1 {lc d1 d2 ld : Addr} : valV (siteK lc d1 d2 ld) (.inr "first") = some (.ref d1) := by
  have n1 : ¬ ("columns" : Str) = "first" := by decide +kernel
  unfold siteK
  rw [valV_neg (fun e => n1 (Sum.inr.inj e)), valV_pos rfl]
theorem site_2 {lc d1 d2 ld : Addr} : valV (siteK lc d1 d2 ld) (.inr "second") = some (.ref d2) := by
  have n1 : ¬ ("columns" : Str) = "second" := by decide +kernel
  have n2 : ¬ ("first" : Str) = "second" := by decide +kernel
  unfold siteK
  rw [valV_neg (fun e => n1 (Sum.inr.inj e)), valV_neg (fun e => n2 (Sum.inr.inj e)), valV_pos rfl]
theorem site_d {lc d1 d2 ld : Addr} : valV (siteK lc d1 d2 ld) (.inr "divided") = some (.ref ld) := by
  have n1 : ¬ ("columns" : Str) = "divided" := by decide +kernel
  have n2 : ¬ ("first" : Str) = "divided" := by decide +kernel
  have n3 : ¬ ("second" : Str) = "divided" := by decide +kernel
  unfold siteK
  rw [valV_neg (fun e => n1 (Sum.inr.inj e)), valV_neg (fun e => n2 (Sum.inr.inj e)), valV_neg (fun e => n3 (Sum.inr.inj e)), valV_pos rfl]
theorem SiteAt.gets {H : Hp} {s : Addr} {cols : List Str} {one two : Rws} (h : SiteAt H s cols one two) : ∃ lc d1 d2 ld, H lc = some (.lst (cols.map V.str)) ∧ RowsAt H d1 one ∧ RowsAt H d2 two ∧ H ld = some (.lst []) ∧
    DGet H s (.str "columns") (some (.ref lc)) ∧ DGet H s (.str "first") (some (.ref d1)) ∧ DGet H s (.str "second") (some (.ref d2)) ∧ DGet H s (.str "divided") (some (.ref ld)) := by
  obtain ⟨lc, d1, d2, ld, h1, h2, h3, h4, h5⟩ := h
  have h1 : H s = some (.dK (siteK lc d1 d2 ld)) := h1
  have g := fun k => DGet.k (k := k) h1
  exact ⟨lc, d1, d2, ld, h2, h3, h4, h5, site_c ▸ g (.inr "columns"), site_1 ▸ g (.inr "first"), site_2 ▸ g (.inr "second"), site_d ▸ g (.inr "divided")⟩
section
variable {P : Program} {w : World} {K : PySem.W.Frag} {mg : Str → Option Value} {base : Heap}
def sp_law_table (K : PySem.W.Frag) : Sp := fun vs H Q _ => ∃ s side cols one two rows, vs = [.ref s, .str side] ∧ SiteAt H s cols one two ∧ (side = "first" ∧ rows = one ∨ side = "second" ∧ rows = two) ∧ OkCols cols ∧ OkRows cols rows ∧ ∀ H' t, Same H H' → H t = none → TableAt K H' t cols rows → Q (.ref t) H'
theorem sc_law_table : FnScope ["_law_site_here", "_law_side", "_law_rows_here", "_law_place"] ["_law_site_here", "_law_side"] (defScope s_law_table) := ⟨rfl, rfl, rfl, by decide +kernel, rfl, by decide +kernel, by decide +kernel⟩
theorem ok_law_table (T : Tx K mg) : C8.Cal P w K mg base 7 "_law_table" (sp_law_table K) [] := by
  refine cal_of T.f_law_table T.g_law_table sc_law_table (fun _ _ _ _ _ _ us hl => match us, hl with | [_, _], _ => rfl) (fun vs H Q E h => ?_) (fun cdv A outer s H vs Q E hr h => ?_)
  · obtain ⟨s, side, cols, one, two, rows, rfl, _⟩ := h
    rfl
  · obtain ⟨s, side, cols, one, two, rows, rfl, hsi, hside, hc, ho, k⟩ := h
    have nd := sc_law_table.nd
    have hu := hu_of hr
    refine ⟨_, (pss_cons (ps_set (i := 2) nd rfl (Or.inr rfl) (pe_dget hu (pv 0) (pv 1) (fun _ _ => rfl)))
      (pss_one (ps_ret (C8.pe_mk (ok_Table_init T) hr (by decide) rfl (pa_cons (pe_callTy call_list_of (by rfl) T.z_list (by decide +kernel) (pa_cons (pe_dget hu (pv 0) pe_str (fun _ _ => rfl)) pa_nil)) (pa_cons (pe_callTy (call_dictP rfl) (by rfl) T.z_dict (by decide +kernel) (pa_cons (pe_lock (pe_lc (own := [("_law_place", 3)]) rfl nd (pi_keys (pv 2)) (blkOk_by (by kernel_rfl)) (fun _ _ _ _ _ => (pg_name (i := 3) nd rfl (Or.inl rfl))) (fun _ _ _ _ _ => pts_nil) (fun _ _ _ _ _ => (pe_tup (pa_cons (pv 3) (pa_cons (pe_callTy call_dictD (by rfl) T.z_dict (by decide +kernel) (pa_cons (pe_dget hu (pv 2) (pv 3) (fun _ _ => rfl)) pa_nil)) pa_nil)))))) pa_nil)) pa_nil)))))), ?_⟩
    obtain ⟨lc, d1, d2, ld, hlc, hr1, hr2, hld, gc, g1, g2, gd⟩ := hsi.gets
    obtain ⟨d, hrd, gside⟩ : ∃ d, RowsAt H d rows ∧ DGet H s (.str side) (some (.ref d)) := by
      rcases hside with ⟨rfl, rfl⟩ | ⟨rfl, rfl⟩
      · exact ⟨d1, hr1, g1⟩
      · exact ⟨d2, hr2, g2⟩
    walk_at "nf"
    refine ⟨_, rfl, _, rfl, s, _, rfl, gside, _, rfl, s, _, rfl, gc, lc, _, rfl, .inl (SqL.of hlc), fun L hL => ?_⟩
    have e1 : Same H (upd H L (.lst (cols.map V.str))) := (Same.refl _).new hL
    have hLL : upd H L (.lst (cols.map V.str)) L = some (.lst (cols.map V.str)) := upd_same
    generalize upd H L (.lst (cols.map V.str)) = H1 at e1 hLL
    have hrd1 := Same.rows e1 hrd
    obtain ⟨kvs, hk, hkl, hkm, hkr⟩ := hrd1.opn
    let R : Nat → List V → Hp → Prop := fun i acc H' => ∃ ps as : List Addr, acc = ps.map V.ref ∧ ps.length = i ∧ as.length = i ∧ ∀ (j : Nat) r pa aa, rows[j]? = some r → ps[j]? = some pa → as[j]? = some aa → H' pa = some (.tup [.str r.1, .ref aa]) ∧ H' aa = some (cO r.2)
    refine lc_keysH hk (fun od F q => ⟨_, rfl, q⟩) R (fun od D => ⟨[], [], rfl, rfl, rfl, fun j r pa aa _ h => by simp at h⟩) ?_ ?_
    · rintro od D i k0 v H' acc hDd hDn hki e hDD hl2 ⟨ps, as, rfl, hpl, hasl, hall⟩
      obtain ⟨r, a0, hri, rfl, rfl, _⟩ := hkr i k0 v hki
      obtain ⟨a, hva, hca⟩ := hrd1.get hk ho.nd (List.mem_of_getElem? hri)
      have had : a ≠ d := hrd1.apart hca (ho.row r (List.mem_of_getElem? hri)).ne
      have ha' := e _ _ (Same.lock (od := od) (u := .dK kvs) had hca)
      have hd' := e _ _ (upd_same (H := H1) (a := d) (o := .frz od (.dK kvs)))
      have hi20 : i < 20 := by
        have h1 := (List.getElem?_eq_some_iff.mp hri).1
        have h2 := ho.le
        omega
      walk_at "nf"
      refine ⟨rfl, ?_⟩
      rw [if_pos rfl]
      have hdg : DGet H' d (.str r.1) (valV kvs (.inr r.1)) := .inl ⟨_, Sum.inr _, .inr ⟨od, hd'⟩, rfl, rfl⟩
      rw [hva] at hdg
      refine ⟨_, rfl, _, rfl, _, rfl, d, _, rfl, hdg, a, _, rfl, .inl ha', fun Dc hDc => ⟨(by show 2 ≤ sizeLine; decide), fun T0 hT0 => ?_⟩⟩
      have ec : Same H' (upd H' Dc (cO r.2)) := (Same.refl _).new hDc
      have eT : Same (upd H' Dc (cO r.2)) (upd (upd H' Dc (cO r.2)) T0 (.tup [.str r.1, .ref Dc])) := (Same.refl _).new hT0
      have ecT := ec.trans eT
      have hT1 : upd (upd H' Dc (cO r.2)) T0 (.tup [.str r.1, .ref Dc]) T0 = some (.tup [.str r.1, .ref Dc]) := upd_same
      have hc1 := eT _ _ (upd_same (H := H') (a := Dc) (o := cO r.2))
      have hD2 := ecT _ _ hDD
      refine lc_put (R := R) hDn hD2 (e.trans ecT) hl2 (by omega) (fun ⟨ps, as, q1, q2, q3, q4⟩ => ⟨ps, as, q1, q2, q3, fun j r pa aa z1 z2 z3 => ?_⟩) ?_
      · obtain ⟨w1, w2⟩ := q4 j r pa aa z1 z2 z3
        exact ⟨(upd_ne fun z => by rw [z] at w1; cases hD2.symm.trans w1).trans w1, (upd_ne fun z => by rw [z] at w2; cases hD2.symm.trans w2).trans w2⟩
      · refine ⟨ps ++ [T0], as ++ [Dc], by rw [List.map_append]; rfl, by rw [List.length_append, hpl]; rfl, by rw [List.length_append, hasl]; rfl, fun j r' pa aa z1 z2 z3 => ?_⟩
        by_cases hj : j < i
        · rw [List.getElem?_append_left (by omega)] at z2 z3
          obtain ⟨w1, w2⟩ := hall j r' pa aa z1 z2 z3
          exact ⟨ecT _ _ w1, ecT _ _ w2⟩
        · rw [List.getElem?_append_right (by omega)] at z2 z3
          have hz : j = i := by
            have := (List.getElem?_eq_some_iff.mp z2).1
            simp only [List.length_singleton] at this
            omega
          subst hz
          rw [hpl, Nat.sub_self] at z2
          rw [hasl, Nat.sub_self] at z3
          obtain rfl : T0 = pa := Option.some.inj z2
          obtain rfl : Dc = aa := Option.some.inj z3
          obtain rfl : r = r' := Option.some.inj (hri.symm.trans z1)
          exact ⟨hT1, hc1⟩
    · rintro od D H' acc hDn e hd' hDd hDD _ ⟨ps, as, rfl, hpl, hasl, hall⟩
      rw [hkl] at hpl hasl
      have hun : ∀ {b o}, H' b = some o → (∀ od u, o ≠ .frz od u) → upd H' d (.dK kvs) b = some o := fun {b o} h hne => (upd_ne fun z => by rw [z, hd'] at h; exact hne _ _ (Option.some.inj h).symm).trans h
      have hD2 : upd H' d (.dK kvs) D = some (.lst (ps.map V.ref)) := hun hDD (fun _ _ z => by cases z)
      have hall2 : ∀ (j : Nat) r pa aa, rows[j]? = some r → ps[j]? = some pa → as[j]? = some aa → upd H' d (.dK kvs) pa = some (.tup [.str r.1, .ref aa]) ∧ upd H' d (.dK kvs) aa = some (cO r.2) := fun j r pa aa z1 z2 z3 =>
        let ⟨w1, w2⟩ := hall j r pa aa z1 z2 z3
        ⟨hun w1 (fun _ _ z => by cases z), hun w2 (fun _ _ z => by cases z)⟩
      generalize upd H' d (.dK kvs) = H2 at e hD2 hall2
      have hzl : ((rows.zip as).map fun q => ((Sum.inr q.1.1 : Key), V.ref q.2)).length = rows.length := by rw [List.length_map, List.length_zip, hasl, Nat.min_self]
      have hzk : ((rows.zip as).map fun q => ((Sum.inr q.1.1 : Key), V.ref q.2)).map Prod.fst = rows.map fun r => (Sum.inr r.1 : Key) := by
        rw [List.map_map]
        have e := List.map_fst_zip (l₁ := rows) (l₂ := as) (by omega)
        conv => rhs; rw [← e, List.map_map]
        rfl
      refine ⟨D, ps, (rows.zip as).map fun q => (.inr q.1.1, .ref q.2), rfl, SqL.of hD2, ?_, fun pp hpp => ?_⟩
      · refine paired_ix (by rw [hzl, hpl]) fun i a b h1 h2 => ?_
        rw [List.getElem?_map] at h2
        obtain ⟨⟨r, aa⟩, hz, rfl⟩ := Option.map_eq_some_iff.mp h2
        obtain ⟨q1, q2⟩ := List.getElem?_zip_eq_some.mp hz
        exact SqT.of (hall2 i r a aa q1 h1 q2).1
      · rw [mergeK_nd _ [] (by rw [List.nil_append, hzk]; exact inr_nodup ho.nd), List.nil_append]
        have ep : Same H2 (upd H2 pp (.dK ((rows.zip as).map fun q => (.inr q.1.1, .ref q.2)))) := (Same.refl _).new hpp
        have hrows : RowsAt (upd H2 pp (.dK ((rows.zip as).map fun q => (.inr q.1.1, .ref q.2)))) pp rows := ⟨as, hasl, upd_same, fun q hq => by
          obtain ⟨i, hi⟩ := List.mem_iff_getElem?.mp hq
          obtain ⟨q1, q2⟩ := List.getElem?_zip_eq_some.mp hi
          obtain ⟨pa, hpa⟩ : ∃ pa, ps[i]? = some pa := ⟨_, List.getElem?_eq_getElem (by have := (List.getElem?_eq_some_iff.mp q1).1; omega)⟩
          exact ep _ _ (hall2 i q.1 pa q.2 q1 hpa q2).2⟩
        have e2 := e1.trans (e.trans ep)
        exact go_Table (.inl (SqL.of ((e.trans ep) _ _ hLL))) hrows hc ho fun H' t e3 ht0 ht => k H' t (e2.trans e3) (e2.free ht0) ht
end
end NS
set_option Elab.async false
set_option linter.all false
set_option maxRecDepth 100000
set_option maxHeartbeats 4000000
/-! The law's exchange, kinds, places above, spots. -/
namespace NS
open PySem PySem.Spec PyProof.Rows L2 He
local macro_rules | `(tactic| walk_at "nf") => `(tactic| dsimp only [L2.tNext, L2.tSeq, L2.tDrop, L2.tRet, L2.tRetN, L2.tIfS, L2.tAsg, L2.gName, L2.gCons, L2.gNil, L2.gTup, L2.tOp, L2.tUn, L2.tTest, L2.tChain, L2.tB, L2.tAnd, L2.tOr, L2.tNot, L2.tAndV, L2.tOrV, L2.tNotV, L2.tIf, L2.tCB, L2.tNil, L2.tCons, L2.tTup, L2.tLst, L2.tFld, L2.sFld, L2.tCall, L2.tMeth, L2.tMake, L2.tBM, L2.tBM0, L2.tM1, L2.tM0, L2.tSl, L2.tPart, L2.tNoPart, L2.tPar, L2.tVar, L2.tC, L2.cxOf, L2.tYes, C8.tCut])
theorem RowsAt.look {H : Hp} {d : Addr} {cols : List Str} {rows : Rws} (h : RowsAt H d rows) (ho : OkRows cols rows) (p : Str) : ∃ o, DGet H d (.str p) o ∧ ((o = none ∧ rowOf rows p = []) ∨ ∃ a, o = some (.ref a) ∧ H a = some (cO (rowOf rows p))) := by
  obtain ⟨kvs, hk, _⟩ := h.opn
  refine ⟨_, DGet.k (k := .inr p) hk, ?_⟩
  by_cases hp : p ∈ rows.map Prod.fst
  · obtain ⟨r, hr, rfl⟩ := List.mem_map.mp hp
    obtain ⟨a, h1, h2⟩ := h.get hk ho.nd hr
    rw [rowOf_mem ho.nd hr]
    exact .inr ⟨a, h1, h2⟩
  · exact .inl ⟨h.non hk hp, rowOf_not hp⟩
theorem cell_go {σ : L2.St} {H : Hp} {Q : VK} {s d : Addr} {p c side : Str} {cols : List Str} {rows : Rws} (h0 : σ[0]? = some (some (.ref s))) (h1 : σ[1]? = some (some (.str p))) (h2 : σ[2]? = some (some (.str c))) (gs : DGet H s (.str side) (some (.ref d))) (hr : RowsAt H d rows) (ho : OkRows cols rows)
    (k : ∀ H', Same H H' → Q (optV (ans rows p c)) H') : tDGet1 (tDGet2 (tDGet (tVar 0) (tC (.str side))) (tVar 1) tDNewK) (tVar 2) σ H Q := by
  obtain ⟨kvs, hk, _⟩ := hr.opn
  refine ⟨_, h0, s, _, rfl, gs, d, rfl, .inl ⟨_, .inl hk⟩, _, h1, fun q hq => ?_⟩
  have e := (Same.refl H).new (o := .dK []) hq
  obtain ⟨o, ho1, hcase⟩ := (Same.rows e hr).look ho p
  refine ⟨o, ho1, ?_⟩
  rcases hcase with ⟨rfl, hro⟩ | ⟨a, rfl, ha⟩
  · refine ⟨q, rfl, .inl ⟨_, .inl upd_same⟩, _, h2, _, DGet.k (k := .inr c) upd_same, ?_⟩
    have := k _ e
    unfold ans at this
    rw [hro] at this
    exact this
  · refine ⟨a, rfl, .inl ⟨_, .inl ha⟩, _, h2, _, DGet.k (k := .inr c) ha, ?_⟩
    rw [cell_val, op_getD]
    exact k _ e
section
variable {P : Program} {w : World} {K : PySem.W.Frag} {mg : Str → Option Value} {base : Heap}
/-- the site with all that is known of it -/
structure St2 (H : Hp) (s : Addr) (cols : List Str) (one two : Rws) : Prop where
  at_ : SiteAt H s cols one two
  hc : OkCols cols
  h1 : OkRows cols one
  h2 : OkRows cols two
  le : (spots one two).length ≤ 6
  pl : ∀ q ∈ spots one two, PlaceS q
theorem Same.st2 {H H' : Hp} {s : Addr} {cols : List Str} {one two : Rws} (e : Same H H') (h : St2 H s cols one two) : St2 H' s cols one two := ⟨Same.site e h.at_, h.hc, h.h1, h.h2, h.le, h.pl⟩
def sp_law_exchange (K : PySem.W.Frag) : Sp := fun vs H Q _ => ∃ s cols one two, vs = [.ref s] ∧ St2 H s cols one two ∧ ∀ H' x, Same H H' → H x = none → ExAt K H' x cols one two → Q (.ref x) H'
theorem sc_law_exchange : FnScope ["_law_site_here"] ["_law_site_here"] (defScope s_law_exchange) := ⟨rfl, rfl, rfl, by decide +kernel, rfl, by decide +kernel, by decide +kernel⟩
theorem ok_law_exchange (T : Tx K mg) : C8.Cal P w K mg base 12 "_law_exchange" (sp_law_exchange K) [] := by
  refine cal_of T.f_law_exchange T.g_law_exchange sc_law_exchange (fun _ _ _ _ _ _ us hl => match us, hl with | [_], _ => rfl) (fun vs H Q E h => ?_) (fun cdv A outer s H vs Q E hr h => ?_)
  · obtain ⟨s, cols, one, two, rfl, _⟩ := h
    rfl
  · obtain ⟨s, cols, one, two, rfl, hs, k⟩ := h
    have nd := sc_law_exchange.nd
    have hu := hu_of hr
    refine ⟨_, (pss_one (ps_ret (pe_makeKC (okK_Exchange_init T) hr (by decide) rfl (pa_cons (C8.pe_c (ok_law_table T) hr (by decide) rfl (pa_cons (pv 0) (pa_cons pe_str pa_nil))) (pa_cons (C8.pe_c (ok_law_table T) hr (by decide) rfl (pa_cons (pv 0) (pa_cons pe_str pa_nil))) pa_nil)) (pk_cons (pe_callTy call_list_of (by rfl) T.z_list (by decide +kernel) (pa_cons (pe_dget hu (pv 0) pe_str (fun _ _ => rfl)) pa_nil)) pk_nil)))), ?_⟩
    walk_at "nf"
    have h6 := hs.le
    dsimp only [L2.tMakeK, L2.tCons, L2.tNil, L2.tCall, L2.tVar, L2.tC, L2.tCB, L2.tDGet]
    refine ⟨_, rfl, s, "first", cols, one, two, one, rfl, hs.at_, .inl ⟨rfl, rfl⟩, hs.hc, hs.h1, fun H1 t1 e1 ht10 ht1 => ?_⟩
    refine ⟨_, rfl, s, "second", cols, one, two, two, rfl, Same.site e1 hs.at_, .inr ⟨rfl, rfl⟩, hs.hc, hs.h2, fun H2 t2 e2 ht20 ht2 => ?_⟩
    have e12 := e1.trans e2
    obtain ⟨lc, d1, d2, ld, hlc, hr1, hr2, hld, gc, g1, g2, gd⟩ := (Same.site e12 hs.at_).gets
    refine ⟨_, rfl, s, _, rfl, gd, ld, _, rfl, .inl (SqL.of hld), fun L hL => ⟨rfl, rfl, fun x dx hx hdx hne => ?_⟩⟩
    have e3 : Same H2 (upd H2 L (.lst [])) := (Same.refl _).new hL
    have hLL : upd H2 L (.lst []) L = some (.lst []) := upd_same
    generalize upd H2 L (.lst []) = H3 at e3 hLL hx hdx
    have e4 : Same H3 (upd (upd H3 dx (.own x)) x (.ins (ga K "Exchange") dx [])) := ((Same.refl _).new hdx).new (by rw [upd_ne hne.symm]; exact hx)
    exact ⟨x, t1, t2, L, dx, cols, one, two, rfl, upd_same, Same.table (e2.trans (e3.trans e4)) ht1, Same.table (e3.trans e4) ht2, SqL.of (e4 _ _ hLL), hs.hc, hs.h1, hs.h2, by omega, hs.pl, fun H' b he => ⟨rfl, k H' x ((e12.trans e3).trans (made_same hx hdx b)) ((e12.trans e3).free hx) he⟩⟩
def sp_law_kind : Sp := fun vs H Q _ => ∃ s p c cols one two, vs = [.ref s, .str p, .str c] ∧ St2 H s cols one two ∧ ∀ H', Same H H' → Q (optV (kindX one two p c)) H'
theorem sc_law_kind : FnScope ["_law_site_here", "_law_place", "_law_column", "_law_one", "_law_other"] ["_law_site_here", "_law_place", "_law_column"] (defScope s_law_kind) := ⟨rfl, rfl, rfl, by decide +kernel, rfl, by decide +kernel, by decide +kernel⟩
theorem ok_law_kind (T : Tx K mg) : C8.Cal P w K mg base 1 "_law_kind" sp_law_kind [] := by
  refine cal_of T.f_law_kind T.g_law_kind sc_law_kind (fun _ _ _ _ _ _ us hl => match us, hl with | [_, _, _], _ => rfl) (fun vs H Q E h => ?_) (fun cdv A outer s H vs Q E hr h => ?_)
  · obtain ⟨s, p, c, cols, one, two, rfl, _⟩ := h
    rfl
  · obtain ⟨s, p, c, cols, one, two, rfl, hs, k⟩ := h
    have nd := sc_law_kind.nd
    have hu := hu_of hr
    refine ⟨_, (pss_cons (ps_set (i := 3) nd rfl (Or.inl rfl) (pe_dget1 hu (pe_dget2 hu (pe_dget hu (pv 0) pe_str (fun _ _ => rfl)) (pv 1) pe_dnewK ⟨rfl, rfl, rfl, rfl⟩) (pv 2) ⟨rfl, rfl, rfl, rfl⟩))
      (pss_cons (ps_set (i := 4) nd rfl (Or.inl rfl) (pe_dget1 hu (pe_dget2 hu (pe_dget hu (pv 0) pe_str (fun _ _ => rfl)) (pv 1) pe_dnewK ⟨rfl, rfl, rfl, rfl⟩) (pv 2) ⟨rfl, rfl, rfl, rfl⟩))
      (pss_cons (ps_if (PW.pt (pw_or (pt_cmpR op_isN (pv 3) pe_non (nomark _)) (pw_or1 (pt_cmpR op_isN (pv 4) pe_non (nomark _))))) (pss_one (ps_ret (pe_ifExp (pt_cmpR op_eq (pv 3) (pv 4) (nomark _)) pe_non (pe_ix ix_list (pe_lst (pa_cons pe_str (pa_cons pe_str pa_nil))) (pe_callTy call_int1 (by rfl) T.z_int (by decide +kernel) (pa_cons (pe_cmpR op_isN (pv 3) pe_non (nomark _)) pa_nil)) (fun _ _ => rfl))))) pss_nil)
      (pss_one (ps_ret (pe_ix ix_list (pe_lst (pa_cons pe_str (pa_cons pe_str pa_nil))) (pe_callTy call_int1 (by rfl) T.z_int (by decide +kernel) (pa_cons (pe_cmpR op_eq (pv 3) (pv 4) (nomark _)) pa_nil)) (fun _ _ => rfl))))))), ?_⟩
    walk_at "nf"
    obtain ⟨lc, d1, d2, ld, hlc, hr1, hr2, hld, gc, g1, g2, gd⟩ := hs.at_.gets
    refine cell_go rfl rfl rfl g1 hr1 hs.h1 fun H1 e1 => ?_
    obtain ⟨lc, d1, d2, ld, hlc, hr1, hr2, hld, gc, g1, g2, gd⟩ := (Same.site e1 hs.at_).gets
    refine cell_go rfl rfl rfl g2 hr2 hs.h2 fun H2 e2 => ?_
    have e12 := e1.trans e2
    have k : ∀ H', Same H H' → Q (optV (kOf (ans one p c) (ans two p c))) H' := k
    generalize ans one p c = a at *
    generalize ans two p c = b at *
    have put : ∀ (l : List V) (i : Int) (x : V) (H3 : Hp), Same H H3 → atI l i = some x → (∀ H', Same H H' → Q x H') → ∀ q, H3 q = none → rIxL K (.ref q) (.int i) (upd H3 q (.lst l)) Q := fun l i x H3 e hat kq q hq => ⟨q, l, i, x, rfl, rfl, SqL.of upd_same, hat, kq _ (e.new hq)⟩
    cases a with
    | none =>
      cases b with
      | none => exact ⟨_, rfl, rfl, _, rfl, iteT (iteT ⟨_, rfl, _, rfl, rfl, _, rfl, iteT (k _ e12)⟩)⟩
      | some y => exact ⟨_, rfl, rfl, _, rfl, iteT (iteT ⟨_, rfl, _, rfl, rfl, _, rfl, iteF ⟨(by show 2 ≤ sizeLine; decide), fun q hq => ⟨_, rfl, rfl, .inr ⟨_, rfl, put _ 1 _ _ e12 rfl k q hq⟩⟩⟩⟩)⟩
    | some x =>
      cases b with
      | none => exact ⟨_, rfl, rfl, _, rfl, iteF ⟨_, rfl, rfl, _, rfl, iteT ⟨_, rfl, _, rfl, rfl, _, rfl, iteF ⟨(by show 2 ≤ sizeLine; decide), fun q hq => ⟨_, rfl, rfl, .inr ⟨_, rfl, put _ 0 _ _ e12 rfl k q hq⟩⟩⟩⟩⟩⟩
      | some y =>
        refine ⟨_, rfl, rfl, _, rfl, iteF ⟨_, rfl, rfl, _, rfl, iteF ⟨(by show 2 ≤ sizeLine; decide), fun q hq => ⟨_, rfl, _, rfl, rfl, .inr ⟨_, rfl, ?_⟩⟩⟩⟩⟩
        by_cases e : x = y
        · have k : ∀ H', Same H H' → Q (optV (if x = y then some "kept" else some "turned")) H' := k
          rw [if_pos e] at k
          rw [decide_eq_true (show optV (some x) = optV (some y) by rw [e])]
          exact put _ 1 _ _ e12 rfl k q hq
        · have k : ∀ H', Same H H' → Q (optV (if x = y then some "kept" else some "turned")) H' := k
          rw [if_neg e] at k
          rw [decide_eq_false (show ¬ optV (some x) = optV (some y) from fun z => e (V.str.inj z))]
          exact put _ 0 _ _ e12 rfl k q hq
def sp_law_above : Sp := fun vs H Q _ => ∃ s ns c cols one two, vs = [.ref s, .str (txt ns), .str c] ∧ OkP ns ∧ St2 H s cols one two ∧ ∀ H', Same H H' → Q (oV (abv one two c ns.length ns)) H'
theorem sc_law_above : FnScope ["_law_site_here", "_law_place", "_law_column", "_law_found"] ["_law_site_here", "_law_place", "_law_column"] (defScope s_law_above) := ⟨rfl, rfl, rfl, by decide +kernel, rfl, by decide +kernel, by decide +kernel⟩
theorem ok_law_above (T : Tx K mg) : C8.Cal P w K mg base 2 "_law_above" sp_law_above [] := by
  refine cal_of T.f_law_above T.g_law_above sc_law_above (fun _ _ _ _ _ _ us hl => match us, hl with | [_, _, _], _ => rfl) (fun vs H Q E h => ?_) (fun cdv A outer s H vs Q E hr h => ?_)
  · obtain ⟨s, ns, c, cols, one, two, rfl, _⟩ := h
    rfl
  · obtain ⟨s, ns, c, cols, one, two, rfl, hp, hs, k⟩ := h
    have nd := sc_law_above.nd
    refine ⟨_, (pss_cons (ps_set (i := 3) nd rfl (Or.inl rfl) (C8.pe_c (ok_law_up T) hr (by decide) rfl (pa_cons (pv 1) pa_nil)))
      (pss_cons (ps_while PassesOwn.never (PW.pt (pw_and (pt_cmpR op_notN (pv 3) pe_non (nomark _)) (pw_and1 (pt_cmpR op_isN (C8.pe_c (ok_law_kind T) hr (by decide) rfl (pa_cons (pv 0) (pa_cons (pv 3) (pa_cons (pv 2) pa_nil)))) pe_non (nomark _))))) (pss_one (ps_set (i := 3) nd rfl (Or.inl rfl) (C8.pe_c (ok_law_up T) hr (by decide) rfl (pa_cons (pv 3) pa_nil)))))
      (pss_one (ps_ret (pv 3))))), ?_⟩
    walk_at "nf"
    refine ⟨_, rfl, ns, rfl, hp, ?_⟩
    rw [upV_o]
    let ms : Option (List (List Nat)) → Nat := fun o => match o with | none => 0 | some m => m.length + 1
    have okO : ∀ {ns : List (List Nat)}, OkP ns → ∀ m, upO ns = some m → OkP m := fun h m e => (upO_ok h e).1
    refine ⟨fun m σ H' => ∃ o, σ = [some (.ref s), some (.str (txt ns)), some (.str c), some (oV o)] ∧ Same H H' ∧ m = ms o ∧ (∀ m, o = some m → OkP m) ∧ resO one two c o = abv one two c ns.length ns,
      ⟨_, upO ns, rfl, Same.refl _, rfl, okO hp, res_up one two c ns⟩, ?_⟩
    rintro m σ H1 ⟨o, rfl, e, rfl, hok, hres⟩
    walk_at "nf"
    cases o with
    | none =>
      refine ⟨_, rfl, rfl, _, rfl, iteF ⟨_, rfl, ?_⟩⟩
      have : abv one two c ns.length ns = none := hres.symm
      rw [this] at k
      exact k _ e
    | some m =>
      refine ⟨_, rfl, rfl, _, rfl, iteT ⟨_, rfl, _, rfl, _, rfl, s, txt m, c, cols, one, two, rfl, Same.st2 e hs, fun H2 e2 => ?_⟩⟩
      cases hk : kindX one two (txt m) c with
      | none =>
        refine ⟨rfl, _, rfl, iteT ⟨fun σ' H' => ∃ m', m' < m.length + 1 ∧ ∃ o, σ' = [some (.ref s), some (.str (txt ns)), some (.str c), some (oV o)] ∧ Same H H' ∧ m' = ms o ∧ (∀ m, o = some m → OkP m) ∧ resO one two c o = abv one two c ns.length ns, fun _ _ h => h, _, rfl, m, rfl, hok m rfl, ?_⟩⟩
        rw [upV_o]
        refine ⟨ms (upO m), ?_, upO m, rfl, e.trans e2, rfl, okO (hok m rfl), ?_⟩
        · cases hu : upO m with
          | none => exact Nat.succ_pos _
          | some m' => exact Nat.succ_lt_succ (upO_ok (hok m rfl) hu).2
        · rw [res_up, ← hres]
          unfold resO
          dsimp only
          rw [hk]
          rfl
      | some kd =>
        refine ⟨rfl, _, rfl, iteF ⟨_, rfl, ?_⟩⟩
        have : abv one two c ns.length ns = some m := by
          rw [← hres]
          unfold resO
          dsimp only
          rw [hk]
          rfl
        rw [this] at k
        exact k _ (e.trans e2)
def sp_law_spots : Sp := fun vs H Q _ => ∃ s cols one two, vs = [.ref s] ∧ St2 H s cols one two ∧ ∀ H' l, Same H H' → H l = none → H' l = some (.lst ((spots one two).map V.str)) → Q (.ref l) H'
theorem sc_law_spots : FnScope ["_law_site_here", "_law_place"] ["_law_site_here"] (defScope s_law_spots) := ⟨rfl, rfl, rfl, by decide +kernel, rfl, by decide +kernel, by decide +kernel⟩
theorem ok_law_spots (T : Tx K mg) : C8.Cal P w K mg base 1 "_law_spots" sp_law_spots [] := by
  refine cal_of T.f_law_spots T.g_law_spots sc_law_spots (fun _ _ _ _ _ _ us hl => match us, hl with | [_], _ => rfl) (fun vs H Q E h => ?_) (fun cdv A outer s H vs Q E hr h => ?_)
  · obtain ⟨s, cols, one, two, rfl, _⟩ := h
    rfl
  · obtain ⟨s, cols, one, two, rfl, hs, k⟩ := h
    have nd := sc_law_spots.nd
    have hu := hu_of hr
    refine ⟨_, (pss_one (ps_ret (pe_callB (cr_sortedT rfl) (by rfl) T.z_sorted (by decide +kernel) (pa_cons (pe_callTy (cr_setT rfl) (by rfl) T.z_set (by decide +kernel) (pa_cons (pe_lc (own := [("_law_place", 1)]) rfl nd (pi_list (pe_op op_cat (pe_callTy (call_listD rfl) (by rfl) T.z_list (by decide +kernel) (pa_cons (pe_dget hu (pv 0) pe_str (fun _ _ => rfl)) pa_nil)) (pe_callTy (call_listD rfl) (by rfl) T.z_list (by decide +kernel) (pa_cons (pe_dget hu (pv 0) pe_str (fun _ _ => rfl)) pa_nil)))) (blkOk_by (by kernel_rfl)) (fun _ _ _ _ _ => (pg_name (i := 1) nd rfl (Or.inl rfl))) (fun _ _ _ _ _ => pts_nil) (fun _ _ _ _ _ => (pe_callTy SkE.call_str_str (by rfl) T.z_str (by decide +kernel) (pa_cons (pv 1) pa_nil)))) pa_nil)) pa_nil)))), ?_⟩
    walk_at "nf"
    obtain ⟨lc, d1, d2, ld, hlc, hr1, hr2, hld, gc, g1, g2, gd⟩ := hs.at_.gets
    obtain ⟨kv1, hk1, hkl1, hkm1, _⟩ := hr1.opn
    obtain ⟨kv2, hk2, hkl2, hkm2, _⟩ := hr2.opn
    have keysV : ∀ {kvs : List (Key × V)} {rows : Rws}, (kvs.map Prod.fst = rows.map fun r => (Sum.inr r.1 : Key)) → kvs.map (fun kv => kV kv.1) = (rows.map Prod.fst).map V.str := fun {kvs rows} h => by
      have h2 : kvs.map (fun kv => kV kv.1) = (kvs.map Prod.fst).map kV := by rw [List.map_map]; rfl
      rw [h2, h, List.map_map, List.map_map]
      rfl
    refine ⟨_, rfl, s, _, rfl, g1, d1, _, rfl, .inl hk1, fun a ha => ?_⟩
    have ea : Same H (upd H a (.lst (kv1.map fun kv => kV kv.1))) := (Same.refl _).new ha
    have haa : upd H a (.lst (kv1.map fun kv => kV kv.1)) a = some (.lst (kv1.map fun kv => kV kv.1)) := upd_same
    generalize upd H a (.lst (kv1.map fun kv => kV kv.1)) = H1 at ea haa
    obtain ⟨lc', d1', d2', ld', _, _, hr2', _, _, _, g2', _⟩ := (Same.site ea hs.at_).gets
    obtain ⟨kv2', hk2', hkl2', hkm2', _⟩ := hr2'.opn
    refine ⟨_, rfl, s, _, rfl, g2', d2', _, rfl, .inl hk2', fun b hb => ?_⟩
    have eb : Same H1 (upd H1 b (.lst (kv2'.map fun kv => kV kv.1))) := (Same.refl _).new hb
    have hbb : upd H1 b (.lst (kv2'.map fun kv => kV kv.1)) b = some (.lst (kv2'.map fun kv => kV kv.1)) := upd_same
    generalize upd H1 b (.lst (kv2'.map fun kv => kV kv.1)) = H2 at eb hbb
    have h2a := eb _ _ haa
    rw [keysV hkm1] at h2a
    rw [keysV hkm2'] at hbb
    have l1 := hs.h1.le
    have l2 := hs.h2.le
    refine ⟨a, b, _, _, rfl, rfl, h2a, hbb, by simp only [List.length_map]; exact le_size (by omega), fun q hq => ?_⟩
    rw [← List.map_append]
    have eq1 : Same H2 (upd H2 q (.lst ((one.map Prod.fst ++ two.map Prod.fst).map V.str))) := (Same.refl _).new hq
    have hqq : upd H2 q (.lst ((one.map Prod.fst ++ two.map Prod.fst).map V.str)) q = _ := upd_same
    generalize upd H2 q (.lst ((one.map Prod.fst ++ two.map Prod.fst).map V.str)) = H3 at eq1 hqq
    have e3 := ea.trans (eb.trans eq1)
    refine ⟨q, rfl, ⟨_, SqL.of hqq⟩, fun D hD => ?_⟩
    refine lc_go (walk_list (xs := (one.map Prod.fst ++ two.map Prod.fst).map V.str)) hD (fun i acc _ => acc = ((one.map Prod.fst ++ two.map Prod.fst).take i).map V.str) (fun H6 e6 => SqL.of (e6 _ _ hqq)) rfl ?_ ?_
    · rintro i v H4 H5 acc hi e hDD hlen hacc ⟨rfl, hv⟩
      obtain ⟨z, hz, rfl⟩ := get_map_str hv
      simp only [List.length_map, List.length_append] at hi
      walk_at "nf"
      refine ⟨rfl, ?_⟩
      rw [if_pos rfl]
      refine ⟨_, rfl, _, rfl, lc_put hD hDD e hlen (by omega) id ?_⟩
      rw [hacc, List.take_succ, hz, List.map_append]
      rfl
    · rintro H4 acc e hDD hacc
      rw [List.length_map, List.take_length] at hacc
      subst hacc
      have h64 : (one.map Prod.fst ++ two.map Prod.fst).length < 64 := by simp only [List.length_map, List.length_append]; omega
      refine setT_go (.inl (SqL.of hDD)) h64 fun p1 hp1 => sortedT_go upd_same h64 fun p2 hp2 => ?_
      have e4 := (e3.trans e).new (o := SetTO w p1 (one.map Prod.fst ++ two.map Prod.fst)) hp1
      exact k _ p2 (e4.new hp2) (e4.free hp2) upd_same
end
end NS
set_option Elab.async false
set_option linter.all false
set_option maxRecDepth 100000
set_option maxHeartbeats 4000000
/-! The law's steps, their numbers. -/
namespace NS
open PySem PySem.Spec PyProof.Rows L2 He
local macro_rules | `(tactic| walk_at "nf") => `(tactic| dsimp only [L2.tNext, L2.tSeq, L2.tDrop, L2.tRet, L2.tRetN, L2.tIfS, L2.tAsg, L2.gName, L2.gCons, L2.gNil, L2.gTup, L2.tOp, L2.tUn, L2.tTest, L2.tChain, L2.tB, L2.tAnd, L2.tOr, L2.tNot, L2.tAndV, L2.tOrV, L2.tNotV, L2.tIf, L2.tCB, L2.tNil, L2.tCons, L2.tTup, L2.tLst, L2.tFld, L2.sFld, L2.tCall, L2.tMeth, L2.tMake, L2.tBM, L2.tBM0, L2.tM1, L2.tM0, L2.tSl, L2.tPart, L2.tNoPart, L2.tPar, L2.tVar, L2.tC, L2.cxOf, L2.tYes, C8.tCut])
/-- a step as the law tells it: the place, the columns -/
def LSt (H : Hp) (v : V) (s : Stp) : Prop := ∃ t lc, v = .ref t ∧ H t = some (.tup [.str s.2.1, .ref lc]) ∧ H lc = some (.lst (s.2.2.map V.str))
theorem Same.lst {H H' : Hp} {v : V} {s : Stp} (e : Same H H') (h : LSt H v s) : LSt H' v s := let ⟨t, lc, a, b, c⟩ := h; ⟨t, lc, a, e _ _ b, e _ _ c⟩
theorem kOf_same {a b : Option Str} : (kOf a b = none ∨ kOf a b = some ("kept" : Str)) ↔ a = b := by
  have n1 : ¬ ("new" : Str) = "kept" := by decide +kernel
  have n2 : ¬ ("old" : Str) = "kept" := by decide +kernel
  have n3 : ¬ ("turned" : Str) = "kept" := by decide +kernel
  cases a with
  | none =>
    cases b with
    | none => exact ⟨fun _ => rfl, fun _ => .inl rfl⟩
    | some y =>
      refine ⟨fun h => ?_, fun h => by cases h⟩
      rcases h with h | h
      · cases h
      · exact absurd (Option.some.inj h) n1
  | some x =>
    cases b with
    | none =>
      refine ⟨fun h => ?_, fun h => by cases h⟩
      rcases h with h | h
      · cases h
      · exact absurd (Option.some.inj h) n2
    | some y =>
      have e : kOf (some x) (some y) = (if x = y then some ("kept" : Str) else some ("turned" : Str)) := rfl
      rw [e]
      by_cases h : x = y
      · rw [if_pos h, h]
        exact ⟨fun _ => rfl, fun _ => .inr rfl⟩
      · rw [if_neg h]
        refine ⟨fun q => ?_, fun q => absurd (Option.some.inj q) h⟩
        rcases q with q | q
        · cases q
        · exact absurd (Option.some.inj q) n3
theorem in_non_kept (o : Option Str) : inV (optV o) [.non, .str "kept"] = decide (o = none ∨ o = some ("kept" : Str)) := by
  cases o with
  | none => rfl
  | some y =>
    have h : inV (.str y) [.non, .str "kept"] = inV (.str y) (([("kept" : Str)]).map V.str) := rfl
    refine (h.trans inV_str).trans ?_
    by_cases e : y = "kept"
    · subst e; simp
    · simp [e]
theorem ne_strs {K : PySem.W.Frag} {H : Hp} {a b : Addr} {l : List Str} {Q : VK} (hn : ∀ x ∈ l, NameS x) (h1 : SqL K H a (l.map V.str)) (h2 : H b = some (.lst [])) (q : Q (.bl (!l.isEmpty)) H) : rNeD K (.ref a) (.ref b) H Q := by
  refine ⟨_, _, .lst h1 (dp_strs l), .lst (SqL.of h2) .nil, (Shp.list (n := 0) fun d hd => ?_).ok (by decide), shp_nil, ?_⟩
  · obtain ⟨x, hx, rfl⟩ := List.mem_map.mp hd
    obtain ⟨n, rfl, hn⟩ := hn x hx
    exact shp_nm hn
  · rw [eqv_nilM]
    cases l <;> exact q
theorem paired_impM {α β : Type} {R S : α → β → Prop} {xs : List α} {ys : List β} (h : Paired R xs ys) : (∀ a b, a ∈ xs → b ∈ ys → R a b → S a b) → Paired S xs ys := by
  induction h with
  | nil => exact fun _ => .nil
  | cons h _ ih => exact fun f => .cons (f _ _ (List.mem_cons_self ..) (List.mem_cons_self ..) h) (ih fun a b ha hb => f a b (List.mem_cons_of_mem _ ha) (List.mem_cons_of_mem _ hb))
theorem lst_ref {H : Hp} {vs : List V} {sts : List Stp} (h : Paired (LSt H) vs sts) : ∀ x ∈ vs, ∃ t, x = .ref t := by
  induction h with
  | nil => exact fun x hx => by cases hx
  | cons h _ ih =>
    intro x hx
    rcases List.mem_cons.mp hx with rfl | hx
    · obtain ⟨t, _, e, _⟩ := h
      exact ⟨t, e⟩
    · exact ih x hx
theorem lst_put {H : Hp} {F : Addr} {o : HO} {vs : List V} {sts : List Stp} (hF : H F = some (.lst vs)) (hp : Paired (LSt H) vs sts) {v : V} {s : Stp} (hne : s.2.2 ≠ []) (h : LSt H v s) : LSt (upd H F o) v s := by
  obtain ⟨t, lc, rfl, h1, h2⟩ := h
  refine ⟨t, lc, rfl, (upd_ne fun z => by rw [z, hF] at h1; cases h1).trans h1, (upd_ne fun z => ?_).trans h2⟩
  rw [z, hF] at h2
  have e := HO.lst.inj (Option.some.inj h2)
  cases hc : s.2.2 with
  | nil => exact hne hc
  | cons c r =>
    rw [hc, List.map_cons] at e
    obtain ⟨t, ht⟩ := lst_ref hp (.str c) (by rw [e]; exact List.mem_cons_self ..)
    cases ht
theorem step_ne {cols : List Str} {one two : Rws} {p : Str} {s : Stp} (h : stepOf cols one two p = some s) : s.2.2 ≠ [] := by
  unfold stepOf stepsAt at h
  split at h
  · cases h
  · rename_i hn
    cases h
    exact hn
section
variable {P : Program} {w : World} {K : PySem.W.Frag} {mg : Str → Option Value} {base : Heap}
def sp_law_steps : Sp := fun vs H Q _ => ∃ s cols one two, vs = [.ref s] ∧ St2 H s cols one two ∧ ∀ H' l vs', Same H H' → H l = none → H' l = some (.lst vs') → Paired (LSt H') vs' (stepsL cols one two) → Q (.ref l) H'
theorem sc_law_steps : FnScope ["_law_site_here", "_law_found", "_law_place", "_law_changed", "_law_column"] ["_law_site_here"] (defScope s_law_steps) := ⟨rfl, rfl, rfl, by decide +kernel, rfl, by decide +kernel, by decide +kernel⟩
theorem ok_law_steps (T : Tx K mg) : C8.Cal P w K mg base 2 "_law_steps" sp_law_steps [] := by
  refine cal_of T.f_law_steps T.g_law_steps sc_law_steps (fun _ _ _ _ _ _ us hl => match us, hl with | [_], _ => rfl) (fun vs H Q E h => ?_) (fun cdv A outer s H vs Q E hr h => ?_)
  · obtain ⟨s, cols, one, two, rfl, _⟩ := h
    rfl
  · obtain ⟨s, cols, one, two, rfl, hs, k⟩ := h
    have nd := sc_law_steps.nd
    have hu := hu_of hr
    have h6 := hs.le
    refine ⟨_, (pss_cons (ps_set (i := 1) nd rfl (Or.inl rfl) (pe_lst pa_nil))
      (pss_cons (ps_for PassesOwn.never rfl (pi_list (C8.pe_c (ok_law_spots T) hr (by decide) rfl (pa_cons (pv 0) pa_nil))) (pg_name (i := 2) nd rfl (Or.inr rfl))
      (pss_cons (ps_setLc (i := 3) (own := [("_law_column", 4)]) rfl nd rfl rfl (sw_true rfl rfl rfl (by kernel_rfl)) (pi_list (pe_dget hu (pv 0) pe_str (fun _ _ => rfl))) (blkOk_by (by kernel_rfl)) (fun _ _ _ _ _ => (pg_name (i := 4) nd rfl (Or.inl rfl))) (fun _ _ _ _ _ => (pts_one (pt_cmpR (show OpR _ (compareOp .NotIn) (rIn K true) from op_notIn_seq) (C8.pe_c (ok_law_kind T) hr (by decide) rfl (pa_cons (pv 0) (pa_cons (pv 2) (pa_cons (pv 4) pa_nil)))) (pe_tup (pa_cons pe_non (pa_cons pe_str pa_nil))) (by rfl)))) (fun _ _ _ _ _ => (pv 4)))
      (pss_one (ps_if (pt_cmpR op_in_seq (pv 2) (pe_dget hu (pv 0) pe_str (fun _ _ => rfl)) (by rfl)) (pss_one (ps_set (i := 1) nd rfl (Or.inl rfl) (pe_op op_cat (pv 1) (pe_lc (own := [("_law_column", 4)]) rfl nd (pi_list (pv 3)) (blkOk_by (by kernel_rfl)) (fun _ _ _ _ _ => (pg_name (i := 4) nd rfl (Or.inl rfl))) (fun _ _ _ _ _ => pts_nil) (fun _ _ _ _ _ => (pe_tup (pa_cons (pv 2) (pa_cons (pe_lst (pa_cons (pv 4) pa_nil)) pa_nil)))))))) (pss_one (ps_if (pt_cmpR (op_neD hr.units) (pv 3) (pe_lst pa_nil) (nomark _)) (pss_one (ps_expr (pe_bm PySem.F.plainAttrs_list PySem.F.slot_list_append PySem.F.type_list_append mt_append (pv 1) (pa_cons (pe_tup (pa_cons (pv 2) (pa_cons (pv 3) pa_nil))) pa_nil)))) pss_nil))))))
      (pss_one (ps_ret (pv 1))))), ?_⟩
    walk_at "nf"
    refine ⟨Nat.zero_le _, fun F hF => ?_⟩
    have e0 : Same H (upd H F (.lst [])) := (Same.refl _).new hF
    have h0F : upd H F (.lst []) F = some (.lst []) := upd_same
    generalize upd H F (.lst []) = H1 at e0 h0F
    refine ⟨_, rfl, s, cols, one, two, rfl, Same.st2 e0 hs, fun H2 L e2 hL0 hL => ⟨L, rfl, ⟨_, SqL.of hL⟩, ?_⟩⟩
    have e02 := e0.trans e2
    have hLF : L ≠ F := fun z => by rw [z, h0F] at hL0; cases hL0
    refine for_it (walk_list (xs := (spots one two).map V.str)) (fun i σ H' => ∃ (o2 o3 : Option V) (vs : List V), σ = [some (.ref s), some (.ref F), o2, o3, none] ∧ Same H H' ∧ H' L = some (.lst ((spots one two).map V.str)) ∧ H' F = some (.lst vs) ∧ vs.length ≤ i ∧ Paired (LSt H') vs (((spots one two).take i).filterMap (stepOf cols one two)))
      ⟨none, none, [], rfl, e02, hL, e2 _ _ h0F, Nat.zero_le _, .nil⟩ (fun i σ H' _ ⟨_, _, _, _, _, h, _⟩ => SqL.of h) ?_ ?_
    · rintro i v σ H3 H4 hi ⟨o2, o3, vs, rfl, e4, h4L, h4F, hvl, hvp⟩ ⟨rfl, hv⟩
      obtain ⟨p, hp, rfl⟩ := get_map_str hv
      rw [List.length_map] at hi
      walk_at "nf"
      obtain ⟨lc, d1, d2, ld, hlc, hr1, hr2, hld, gc, g1, g2, gd⟩ := (Same.site e4 hs.at_).gets
      refine ⟨_, rfl, s, _, rfl, gc, lc, rfl, ⟨_, SqL.of hlc⟩, fun D hD => ?_⟩
      refine lc_go (walk_list (xs := cols.map V.str)) hD (fun j acc _ => acc = (chg (cols.take j) (rowOf one p) (rowOf two p)).map V.str) (fun H6 e6 => SqL.of (e6 _ _ hlc)) rfl ?_ ?_
      · rintro j v H5 H6 acc hj e6 hDD hlen hacc ⟨rfl, hv⟩
        obtain ⟨c, hc, rfl⟩ := get_map_str hv
        rw [List.length_map] at hj
        have hc3 := hs.hc.le
        walk_at "nf"
        refine ⟨rfl, _, rfl, _, rfl, _, rfl, s, p, c, cols, one, two, rfl, Same.st2 (e4.trans e6) hs, fun H7 e7 => ⟨(by show 2 ≤ sizeLine; decide), fun t ht => ?_⟩⟩
        have e8 : Same H7 (upd H7 t (.tup [.non, .str "kept"])) := (Same.refl _).new ht
        refine ⟨t, [.non, .str "kept"], rfl, .inr (SqT.of upd_same), ?_, rfl, ?_⟩
        · cases kindX one two p c <;> rfl
        generalize upd H7 t (.tup [.non, .str "kept"]) = H8 at e8
        rw [if_pos rfl, in_non_kept]
        refine ⟨_, rfl, ?_⟩
        have hD8 := (e7.trans e8) _ _ hDD
        have hks : (kindX one two p c = none ∨ kindX one two p c = some ("kept" : Str)) ↔ cell (rowOf one p) c = cell (rowOf two p) c := kOf_same
        have tk : chg (cols.take (j + 1)) (rowOf one p) (rowOf two p) = chg (cols.take j) (rowOf one p) (rowOf two p) ++ (if cell (rowOf one p) c = cell (rowOf two p) c then [] else [c]) := by
          unfold chg
          rw [List.take_succ, hc, List.filter_append]
          by_cases h : cell (rowOf one p) c = cell (rowOf two p) c <;> simp [h]
        by_cases h : cell (rowOf one p) c = cell (rowOf two p) c
        · rw [decide_eq_true (hks.mpr h)]
          rw [if_pos h, List.append_nil] at tk
          refine iteF ⟨acc, hD8, e6.trans (e7.trans e8), by omega, ?_⟩
          dsimp only
          rw [hacc, tk]
        · rw [decide_eq_false (fun z => h (hks.mp z))]
          rw [if_neg h] at tk
          refine iteT ⟨_, rfl, lc_put hD hD8 (e6.trans (e7.trans e8)) hlen (by omega) id ?_⟩
          rw [hacc, tk, List.map_append]
          rfl
      · rintro H5 acc e5 hDD hacc
        rw [List.length_map, List.take_length] at hacc
        subst hacc
        have e45 := e4.trans e5
        have h5F := e5 _ _ h4F
        have h5L := e5 _ _ h4L
        have hcn : ∀ x ∈ chg cols (rowOf one p) (rowOf two p), NameS x := fun x hx => hs.hc.nm x (List.mem_filter.mp hx).1
        obtain ⟨lc5, d15, d25, ld5, _, _, _, hld5, _, _, _, gd5⟩ := (Same.site e45 hs.at_).gets
        refine ⟨_, rfl, _, rfl, s, _, rfl, gd5, ld5, [], rfl, .inl (SqL.of hld5), rfl, rfl, _, rfl, iteF ⟨_, rfl, Nat.zero_le _, fun q hq => ?_⟩⟩
        have e6 : Same H5 (upd H5 q (.lst [])) := (Same.refl _).new hq
        refine ne_strs hcn (SqL.of (e6 _ _ hDD)) upd_same ⟨_, rfl, ?_⟩
        generalize upd H5 q (.lst []) = H6 at e6
        have e46 := e5.trans e6
        have hvp6 : Paired (LSt H6) vs (((spots one two).take i).filterMap (stepOf cols one two)) := paired_imp (fun a b h => Same.lst e46 h) hvp
        by_cases hno : chg cols (rowOf one p) (rowOf two p) = []
        · rw [hno]
          have hso : stepOf cols one two p = none := by
            unfold stepOf stepsAt
            rw [if_pos hno]
          refine iteF ⟨_, _, vs, rfl, e4.trans e46, e46 _ _ h4L, e46 _ _ h4F, by omega, ?_⟩
          rw [take_snoc hp, List.filterMap_append]
          have : List.filterMap (stepOf cols one two) [p] = [] := by simp [hso]
          rw [this, List.append_nil]
          exact hvp6
        · have hne : (!(chg cols (rowOf one p) (rowOf two p)).isEmpty) = true := by
            cases hh : chg cols (rowOf one p) (rowOf two p) with
            | nil => exact absurd hh hno
            | cons a r => rfl
          rw [hne]
          have hso : stepOf cols one two p = some (wordOf (rowOf one p) (rowOf two p), p, chg cols (rowOf one p) (rowOf two p)) := by
            unfold stepOf stepsAt
            rw [if_neg hno]
          have h6F := e6 _ _ h5F
          have h6L := e6 _ _ h5L
          have h6D := e6 _ _ hDD
          refine iteT ⟨_, rfl, .inl ⟨rfl, _, SqL.of h6F⟩, _, rfl, _, rfl, (by show 2 ≤ sizeLine; decide), fun t ht => ?_⟩
          have e7 : Same H6 (upd H6 t (.tup [.str p, .ref D])) := (Same.refl _).new ht
          have h7t : upd H6 t (.tup [.str p, .ref D]) t = some (.tup [.str p, .ref D]) := upd_same
          generalize upd H6 t (.tup [.str p, .ref D]) = H7 at e7 h7t
          have h7F := e7 _ _ h6F
          have hvp7 : Paired (LSt H7) vs (((spots one two).take i).filterMap (stepOf cols one two)) := paired_imp (fun a b h => Same.lst e7 h) hvp6
          have hst : LSt H7 (.ref t) (wordOf (rowOf one p) (rowOf two p), p, chg cols (rowOf one p) (rowOf two p)) := ⟨t, D, rfl, h7t, e7 _ _ h6D⟩
          refine ⟨F, _, _, rfl, rfl, h7F, lt_size (by omega), _, _, vs ++ [.ref t], rfl, (e4.trans (e46.trans e7)).mut hF, (upd_ne hLF).trans (e7 _ _ h6L), upd_same, by rw [List.length_append, List.length_singleton]; omega, ?_⟩
          rw [take_snoc hp, List.filterMap_append]
          have : List.filterMap (stepOf cols one two) [p] = [(wordOf (rowOf one p) (rowOf two p), p, chg cols (rowOf one p) (rowOf two p))] := by simp [hso]
          rw [this]
          refine paired_snoc (paired_impM hvp7 fun a b _ hb h => lst_put h7F hvp7 ?_ h) (lst_put h7F hvp7 hno hst)
          obtain ⟨p', _, e'⟩ := List.mem_filterMap.mp hb
          exact step_ne e'
    · rintro σ H3 ⟨o2, o3, vs, rfl, e3, h3L, h3F, hvl, hvp⟩
      rw [List.length_map, List.take_length] at hvp
      exact ⟨_, rfl, k _ F vs e3 hF h3F hvp⟩
def sp_law_number (K : PySem.W.Frag) : Sp := fun vs H Q _ => ∃ l p c vs' sts, vs = [.ref l, .str p, .str c] ∧ SqL K H l vs' ∧ Paired (LSt H) vs' sts ∧ (sts.map fun s => s.2.1).Nodup ∧ sts.length ≤ 40 ∧ (∃ s ∈ sts, s.2.1 = p ∧ c ∈ s.2.2) ∧ ∀ H', Same H H' → Q (.int (numX sts p : Nat)) H'
theorem sc_law_number : FnScope ["_law_steps_here", "_law_place", "_law_column", "_law_k"] ["_law_steps_here", "_law_place", "_law_column"] (defScope s_law_number) := ⟨rfl, rfl, rfl, by decide +kernel, rfl, by decide +kernel, by decide +kernel⟩
theorem ok_law_number (T : Tx K mg) : C8.Cal P w K mg base 1 "_law_number" (sp_law_number K) [] := by
  refine cal_of T.f_law_number T.g_law_number sc_law_number (fun _ _ _ _ _ _ us hl => match us, hl with | [_, _, _], _ => rfl) (fun vs H Q E h => ?_) (fun cdv A outer s H vs Q E hr h => ?_)
  · obtain ⟨l, p, c, vs', sts, rfl, _⟩ := h
    rfl
  · obtain ⟨l, p, c, vs', sts, rfl, hl, hvp, hnd, h40, ⟨s0, hs0, hp0, hc0⟩, k⟩ := h
    have nd := sc_law_number.nd
    refine ⟨_, (pss_one (ps_ret (pe_ix ix_list (pe_lc (own := [("_law_k", 3)]) rfl nd (pi_range1 rfl T.z_range (pa_cons (pe_callB call_len_seq (by rfl) T.z_len (by decide +kernel) (pa_cons (pv 0) pa_nil)) pa_nil)) (blkOk_by (by kernel_rfl)) (fun _ _ _ _ _ => (pg_name (i := 3) nd rfl (Or.inl rfl))) (fun _ _ _ _ _ => (pts_one (PW.pt (pw_and (pt_cmpR op_eq (pe_ix (show IxR _ (rIxT K) from ix_tup) (pe_ix (show IxR _ (rIxL K) from ix_list) (pv 0) (pv 3) (fun _ _ => rfl)) pe_int (fun _ _ => rfl)) (pv 1) (nomark _)) (pw_and1 (pt_cmpR (show OpR _ (compareOp .In) (rIn K false) from op_in_seq) (pv 2) (pe_ix (show IxR _ (rIxT K) from ix_tup) (pe_ix (show IxR _ (rIxL K) from ix_list) (pv 0) (pv 3) (fun _ _ => rfl)) pe_int (fun _ _ => rfl)) (by rfl))))))) (fun _ _ _ _ _ => (pv 3))) pe_int (fun _ _ => rfl)))), ?_⟩
    walk_at "nf"
    have hlen := hvp.length
    refine ⟨_, rfl, l, _, rfl, .inl hl, _, rfl, by omega, by omega, fun D hD => ?_⟩
    rw [Int.toNat_natCast]
    obtain ⟨k0, hk0⟩ := List.mem_iff_getElem?.mp hs0
    have hnum : numX sts p = k0 := by rw [← hp0]; exact numX_at hnd hk0
    have hkl := (List.getElem?_eq_some_iff.mp hk0).1
    refine lc_go (walk_rngL (n := vs'.length)) hD (fun i acc _ => acc = if k0 < i then [V.int (k0 : Nat)] else []) (fun H6 e6 => True.intro) rfl ?_ ?_
    · rintro i v H4 H5 acc hi e hDD hlen2 hacc ⟨rfl, rfl⟩
      obtain ⟨vi, hvi⟩ : ∃ vi, vs'[i]? = some vi := ⟨_, List.getElem?_eq_getElem hi⟩
      obtain ⟨si, hsi, ti, lci, rfl, hti, hlci⟩ := paired_get hvp hvi
      have hl5 := Same.sql e hl
      walk_at "nf"
      refine ⟨rfl, _, rfl, _, rfl, l, _, _, _, rfl, rfl, hl5, atI_nat hvi, ti, _, 0, _, rfl, rfl, SqT.of (e _ _ hti), rfl, _, rfl, rfl, _, rfl, ?_⟩
      by_cases hp : si.2.1 = p
      · have hik : i = k0 := by
          have c1 : (sts.map fun s => s.2.1)[i]? = some p := by rw [List.getElem?_map, hsi, ← hp]; rfl
          have c2 : (sts.map fun s => s.2.1)[k0]? = some p := by rw [List.getElem?_map, hk0, ← hp0]; rfl
          exact (List.getElem?_inj (List.getElem?_eq_some_iff.mp c1).1 hnd).mp (c1.trans c2.symm)
        subst hik
        obtain rfl : si = s0 := Option.some.inj (hsi.symm.trans hk0)
        rw [decide_eq_true (show V.str si.2.1 = V.str p by rw [hp])]
        refine iteT ⟨_, rfl, _, rfl, _, rfl, l, _, _, _, rfl, rfl, hl5, atI_nat hvi, ti, _, 1, _, rfl, rfl, SqT.of (e _ _ hti), rfl, lci, _, rfl, .inl (SqL.of (e _ _ hlci)), rfl, flat_strV _, ?_⟩
        have hin : inV (V.str c) (si.2.2.map V.str) = decide (c ∈ si.2.2) := inV_str
        rw [if_neg Bool.false_ne_true, hin, decide_eq_true hc0]
        refine ⟨_, rfl, iteT ⟨_, rfl, lc_put hD hDD e hlen2 (by omega) id ?_⟩⟩
        rw [hacc, if_neg (Nat.lt_irrefl _), if_pos (Nat.lt_succ_self _)]
        rfl
      · have hik : ¬ i = k0 := fun z => hp (by
          rw [z, hk0] at hsi
          rw [← Option.some.inj hsi, hp0])
        rw [decide_eq_false (fun z => hp (V.str.inj z))]
        refine iteF (iteF ⟨acc, hDD, e, by omega, ?_⟩)
        dsimp only
        rw [hacc]
        by_cases h1 : k0 < i
        · rw [if_pos h1, if_pos (by omega)]
        · rw [if_neg h1, if_neg (by omega)]
    · rintro H4 acc e hDD hacc
      rw [if_pos (by omega)] at hacc
      subst hacc
      refine ⟨D, _, 0, _, rfl, rfl, SqL.of hDD, rfl, ?_⟩
      rw [← hnum]
      exact k _ e
end
end NS
set_option Elab.async false
set_option linter.all false
set_option maxRecDepth 100000
set_option maxHeartbeats 4000000
/-! Rings: where there is an order there is none. -/
namespace NS
open PySem PySem.Spec PyProof.Rows L2 He
local macro_rules | `(tactic| walk_at "nf") => `(tactic| dsimp only [L2.tNext, L2.tSeq, L2.tDrop, L2.tRet, L2.tRetN, L2.tIfS, L2.tAsg, L2.gName, L2.gCons, L2.gNil, L2.gTup, L2.tOp, L2.tUn, L2.tTest, L2.tChain, L2.tB, L2.tAnd, L2.tOr, L2.tNot, L2.tAndV, L2.tOrV, L2.tNotV, L2.tIf, L2.tCB, L2.tNil, L2.tCons, L2.tTup, L2.tLst, L2.tFld, L2.sFld, L2.tCall, L2.tMeth, L2.tMake, L2.tBM, L2.tBM0, L2.tM1, L2.tM0, L2.tSl, L2.tPart, L2.tNoPart, L2.tPar, L2.tVar, L2.tC, L2.cxOf, L2.tYes, C8.tCut])
theorem inV_nat {x : Nat} : ∀ {l : List Nat}, inV (.int (x : Nat)) (l.map fun k : Nat => V.int (k : Nat)) = decide (x ∈ l)
  | [] => rfl
  | y :: r => by
    have ih := inV_nat (x := x) (l := r)
    unfold inV at ih ⊢
    rw [List.map_cons, List.any_cons, ih]
    have e : eqV (.int (y : Nat)) (.int (x : Nat)) = decide (y = x) := by
      have h : eqV (.int (y : Nat)) (.int (x : Nat)) = decide ((y : Int) = (x : Int)) := by
        show ((y : Int) == (x : Int)) = _
        by_cases q : (y : Int) = (x : Int) <;> simp [q]
      rw [h]
      by_cases q : y = x
      · subst q; simp
      · rw [decide_eq_false q, decide_eq_false (fun z => q (Int.ofNat_inj.mp z))]
    rw [e]
    by_cases h : y = x
    · subst h
      simp
    · by_cases g : x ∈ r
      · simp [h, g]
      · have : ¬ x = y := fun q => h q.symm
        simp [h, g, this]
def natsV (l : List Nat) : List V := l.map fun k : Nat => V.int (k : Nat)
theorem flat_natsV (l : List Nat) : (natsV l).all flatV = true := by
  unfold natsV
  rw [List.all_map]
  exact List.all_eq_true.mpr fun x _ => rfl
theorem rgV_nats (n : Nat) : rgV 0 (n : Int) = natsV (List.range n) := by
  unfold rgV natsV
  have e : ((n : Int) - 0).toNat = n := by omega
  rw [e]
  refine List.map_congr_left fun i _ => ?_
  rw [Int.zero_add]
theorem natsV_len (l : List Nat) : (natsV l).length = l.length := List.length_map ..
theorem get_natsV {l : List Nat} {i : Nat} {x : V} (h : (natsV l)[i]? = some x) : ∃ k, l[i]? = some k ∧ x = .int (k : Nat) := by
  unfold natsV at h
  rw [List.getElem?_map] at h
  obtain ⟨k, hk, e⟩ := Option.map_eq_some_iff.mp h
  exact ⟨k, hk, e.symm⟩
theorem natsV_snoc (l : List Nat) (k : Nat) : natsV l ++ [.int (k : Nat)] = natsV (l ++ [k]) := by
  unfold natsV
  rw [List.map_append]
  rfl
def heldS (snt : List Snt) (left : List Nat) : List Nat := (snt.filter fun q => decide (q.1 ∈ left)).map (·.2.1)
def keptS (snt : List Snt) (left : List Nat) : List Nat := left.filter fun k => decide (k ∈ heldS snt left)
theorem kept_done {snt : List Snt} {left : List Nat} (h : (keptS snt left).length = left.length) : keptS snt left = left ∧ ∀ k ∈ left, ∃ a ∈ left, ∃ q ∈ snt, q.1 = a ∧ q.2.1 = k := by
  have e : keptS snt left = left := by
    unfold keptS
    refine List.filter_eq_self.mpr fun k hk => ?_
    refine Classical.byContradiction fun hn => ?_
    have := (List.length_filter_lt_length_iff_exists (p := fun k => decide (k ∈ heldS snt left))).mpr ⟨k, hk, hn⟩
    unfold keptS at h
    omega
  refine ⟨e, fun k hk => ?_⟩
  have hk2 : k ∈ keptS snt left := by rw [e]; exact hk
  have h2 := of_decide_eq_true (List.mem_filter.mp hk2).2
  unfold heldS at h2
  obtain ⟨q, hq, e2⟩ := List.mem_map.mp h2
  obtain ⟨q1, q2⟩ := List.mem_filter.mp hq
  exact ⟨q.1, of_decide_eq_true q2, q, q1, rfl, e2⟩
/-- no step has one ahead of it within a ring -/
def NoRing (snt : List Snt) : Prop := ∀ left : List Nat, (∀ k ∈ left, ∃ a ∈ left, ∃ q ∈ snt, q.1 = a ∧ q.2.1 = k) → left = []
section
variable {P : Program} {w : World} {K : PySem.W.Frag} {mg : Str → Option Value} {base : Heap}
def sp_rings (K : PySem.W.Frag) : Sp := fun vs H Q _ => ∃ x cols one two, vs = [.ref x] ∧ ExAt K H x cols one two ∧ (spots one two).length ≤ 40 ∧ (sentsL cols one two).length ≤ 1000 ∧ NoRing (sentsL cols one two) ∧ ∀ H' l, Same H H' → H l = none → H' l = some (.lst []) → Q (.ref l) H'
theorem sc_steps_in_rings : FnScope ["exchange", "left", "is_done", "held", "kept", "ahead", "behind", "column", "word", "number"] ["exchange"] (defScope s_steps_in_rings) := ⟨rfl, rfl, rfl, by decide +kernel, rfl, by decide +kernel, by decide +kernel⟩
theorem ok_steps_in_rings (T : Tx K mg) : C8.Cal P w K mg base 1 "steps_in_rings" (sp_rings K) [] := by
  refine cal_of T.f_steps_in_rings T.g_steps_in_rings sc_steps_in_rings (fun _ _ _ _ _ _ us hl => match us, hl with | [_], _ => rfl) (fun vs H Q E h => ?_) (fun cdv A outer s H vs Q E hr h => ?_)
  · obtain ⟨x, cols, one, two, rfl, _⟩ := h
    rfl
  · obtain ⟨x, cols, one, two, rfl, he, hl, hsl, hno, k⟩ := h
    have nd := sc_steps_in_rings.nd
    refine ⟨_, (pss_cons (ps_set (i := 1) nd rfl (Or.inr rfl) (pe_listRg rfl rfl T.z_list (prg_1 rfl T.z_range (pe_callB call_len_seq (by rfl) T.z_len (by decide +kernel) (pa_cons (pe_fld (pv 0) rfl) pa_nil)))))
      (pss_cons (ps_set (i := 2) nd rfl (Or.inl rfl) pe_bl)
      (pss_cons (ps_while PassesOwn.never (pt_not (pt_val (pv 2))) (pss_cons (ps_set (i := 3) nd rfl (Or.inr rfl) (pe_lc (own := [("ahead", 5), ("behind", 6), ("column", 7), ("word", 8)]) rfl nd (pi_tup (pe_fld (pv 0) rfl)) (blkOk_by (by kernel_rfl)) (fun _ _ _ _ _ => (show PG _ _ (gTup K 4 _) from pg_tup (by rfl) (pgs_cons (pg_name (i := 5) nd rfl (Or.inl rfl)) (pgs_cons (pg_name (i := 6) nd rfl (Or.inl rfl)) (pgs_cons (pg_name (i := 7) nd rfl (Or.inl rfl)) (pgs_cons (pg_name (i := 8) nd rfl (Or.inl rfl)) pgs_nil)))))) (fun _ _ _ _ _ => (pts_one (pt_cmpR (show OpR _ (compareOp .In) (rIn K false) from op_in_seq) (pv 5) (pv 1) (by rfl)))) (fun _ _ _ _ _ => (pv 6))))
      (pss_cons (ps_setLc (i := 4) (own := [("number", 9)]) rfl nd rfl rfl (sw_true rfl rfl rfl (by kernel_rfl)) (pi_list (pv 1)) (blkOk_by (by kernel_rfl)) (fun _ _ _ _ _ => (pg_name (i := 9) nd rfl (Or.inl rfl))) (fun _ _ _ _ _ => (pts_one (pt_cmpR (show OpR _ (compareOp .In) (rIn K false) from op_in_seq) (pv 9) (pv 3) (by rfl)))) (fun _ _ _ _ _ => (pv 9)))
      (pss_cons (ps_set (i := 2) nd rfl (Or.inl rfl) (pe_cmpR op_eq (pe_callB call_len_seq (by rfl) T.z_len (by decide +kernel) (pa_cons (pv 4) pa_nil)) (pe_callB call_len_seq (by rfl) T.z_len (by decide +kernel) (pa_cons (pv 1) pa_nil)) (nomark _)))
      (pss_one (ps_set (i := 1) nd rfl (Or.inr rfl) (pv 4)))))))
      (pss_one (ps_ret (pv 1)))))), ?_⟩
    walk_at "nf"
    obtain ⟨sc, as, sx, s1, s2⟩ := he.steps
    dsimp only [L2.tLstRg, L2.tRg1, L2.tCB, L2.tCons, L2.tNil, L2.tFld, L2.tVar]
    have hst := steps_le cols one two
    refine ⟨_, rfl, sx.fld T.cl_Exchange T.n_Exchange_steps ⟨sc, _, rfl, .inr s1, _, rfl, ?_, fun L hL => ?_⟩⟩
    · rw [List.length_map, s2.len]
      exact .of_le (by omega) (by omega) (by omega) (by omega)
    rw [List.length_map, rgV_nats, s2.len]
    refine ⟨fun m σ H' => ∃ L left d o3 o4, σ = [some (.ref x), some (.ref L), some (.bl d), o3, o4, none, none, none, none, none] ∧ Same H H' ∧ H L = none ∧ H' L = some (.lst (natsV left)) ∧ left.length ≤ 40 ∧ (d = true → left = []) ∧ m = left.length + (if d = true then 0 else 1),
      ⟨_, L, List.range (stepsL cols one two).length, false, none, none, rfl, (Same.refl _).new hL, hL, upd_same, by rw [List.length_range]; omega, (fun z => by cases z), rfl⟩, ?_⟩
    rintro m σ H1 ⟨L, left, d, o3, o4, rfl, e1, hLn, hL1, hll, hd, rfl⟩
    dsimp only [L2.tNot, L2.tB, L2.tVar]
    refine ⟨_, rfl, d, rfl, ?_⟩
    cases d with
    | true =>
      refine iteF ?_
      dsimp only [L2.tRet, L2.tVar]
      refine ⟨_, rfl, ?_⟩
      rw [hd rfl] at hL1
      exact k _ L e1 hLn hL1
    | false =>
      refine iteT ⟨fun σ' H' => ∃ m', m' < left.length + 1 ∧ ∃ L left d o3 o4, σ' = [some (.ref x), some (.ref L), some (.bl d), o3, o4, none, none, none, none, none] ∧ Same H H' ∧ H L = none ∧ H' L = some (.lst (natsV left)) ∧ left.length ≤ 40 ∧ (d = true → left = []) ∧ m' = left.length + (if d = true then 0 else 1), fun _ _ h => h, ?_⟩
      obtain ⟨sn, vs', z1, z2, z3⟩ := he.snt
      walk_at "nf"
      refine ⟨_, rfl, (Same.xf e1 z1).fld T.cl_Exchange T.n_Exchange_sentences ⟨sn, rfl, ⟨_, Same.tup e1 z2⟩, fun D hD => ?_⟩⟩
      refine lc_go (walk_tup (xs := vs')) hD (fun i acc _ => acc = natsV (heldS ((sentsL cols one two).take i) left)) (fun H2 e2 => Same.tup (e1.trans e2) z2) rfl ?_ ?_
      · rintro i v H2 H3 acc hi e2 hDD hlen hacc ⟨rfl, hv⟩
        obtain ⟨q, hq, hs⟩ := paired_get z3 hv
        obtain ⟨tq, rfl, htq⟩ := hs
        have e3 := e1.trans e2
        have tk : heldS ((sentsL cols one two).take (i + 1)) left = heldS ((sentsL cols one two).take i) left ++ (if q.1 ∈ left then [q.2.1] else []) := by
          rw [List.take_succ, hq]
          unfold heldS
          rw [List.filter_append, List.map_append]
          by_cases h : q.1 ∈ left
          · simp [h]
          · simp [h]
        walk_at "nf"
        refine ⟨tq, _, rfl, SqT.of (e3 _ _ htq), rfl, _, _, rfl, _, _, rfl, _, _, rfl, _, _, rfl, rfl, rfl, _, rfl, _, rfl, L, _, rfl, .inl (SqL.of (e2 _ _ hL1)), rfl, flat_natsV _, _, rfl, ?_⟩
        have hin : inV (.int (q.1 : Nat)) (natsV left) = decide (q.1 ∈ left) := inV_nat
        rw [hin]
        by_cases h : q.1 ∈ left
        · rw [decide_eq_true h]
          rw [if_pos h] at tk
          have hsn : vs'.length = (sentsL cols one two).length := Paired.length z3
          refine iteT ⟨_, rfl, lc_put hD hDD e2 hlen (by omega) id ?_⟩
          rw [hacc, tk, natsV_snoc]
        · rw [decide_eq_false h]
          rw [if_neg h, List.append_nil] at tk
          refine iteF ⟨acc, hDD, e2, by omega, ?_⟩
          dsimp only
          rw [hacc, tk]
      · rintro H2 acc e2 hDD hacc
        have hsn : vs'.length = (sentsL cols one two).length := Paired.length z3
        rw [hsn, List.take_length] at hacc
        subst hacc
        have e3 := e1.trans e2
        walk_at "nf"
        refine ⟨_, rfl, L, rfl, ⟨_, SqL.of (e2 _ _ hL1)⟩, fun D2 hD2 => ?_⟩
        refine lc_go (walk_list (xs := natsV left)) hD2 (fun i acc _ => acc = natsV ((left.take i).filter fun k => decide (k ∈ heldS (sentsL cols one two) left))) (fun H4 e4 => SqL.of (e4 _ _ (e2 _ _ hL1))) rfl ?_ ?_
        · rintro i v H4 H5 acc hi e4 hDD2 hlen hacc ⟨rfl, hv⟩
          obtain ⟨kk, hkk, rfl⟩ := get_natsV hv
          rw [natsV_len] at hi
          have tk : ((left.take (i + 1)).filter fun k => decide (k ∈ heldS (sentsL cols one two) left)) = ((left.take i).filter fun k => decide (k ∈ heldS (sentsL cols one two) left)) ++ (if kk ∈ heldS (sentsL cols one two) left then [kk] else []) := by
            rw [List.take_succ, hkk, List.filter_append]
            by_cases h : kk ∈ heldS (sentsL cols one two) left
            · simp [h]
            · simp [h]
          walk_at "nf"
          refine ⟨rfl, _, rfl, _, rfl, D, _, rfl, .inl (SqL.of (e4 _ _ hDD)), rfl, flat_natsV _, _, rfl, ?_⟩
          have hin : inV (.int (kk : Nat)) (natsV (heldS (sentsL cols one two) left)) = decide (kk ∈ heldS (sentsL cols one two) left) := inV_nat
          rw [hin]
          by_cases h : kk ∈ heldS (sentsL cols one two) left
          · rw [decide_eq_true h]
            rw [if_pos h] at tk
            refine iteT ⟨_, rfl, lc_put hD2 hDD2 e4 hlen (by omega) id ?_⟩
            rw [hacc, tk, natsV_snoc]
          · rw [decide_eq_false h]
            rw [if_neg h, List.append_nil] at tk
            refine iteF ⟨acc, hDD2, e4, by omega, ?_⟩
            dsimp only
            rw [hacc, tk]
        · rintro H4 acc e4 hDD2 hacc
          rw [natsV_len, List.take_length] at hacc
          have hacc : acc = natsV (keptS (sentsL cols one two) left) := hacc
          subst hacc
          walk_at "nf"
          refine ⟨_, rfl, D2, _, rfl, .inl (SqL.of hDD2), _, rfl, L, _, rfl, .inl (SqL.of (e4 _ _ (e2 _ _ hL1))), ?_⟩
          have hkl : (keptS (sentsL cols one two) left).length ≤ left.length := List.length_filter_le ..
          refine ⟨rfl, _, rfl, _, ?_, D2, keptS (sentsL cols one two) left, _, _, _, rfl, (e1.trans e2).trans e4, (e1.trans e2).free hD2, hDD2, by omega, fun h => ?_, rfl⟩
          · rw [natsV_len, natsV_len]
            by_cases h : (keptS (sentsL cols one two) left).length = left.length
            · rw [h]
              simp
            · split
              · omega
              · omega
          · have h := of_decide_eq_true h
            have h := V.int.inj h
            rw [natsV_len, natsV_len] at h
            obtain ⟨q1, q2⟩ := kept_done (Int.ofNat_inj.mp h)
            rw [q1]
            exact hno left q2
def sp_ring (K : PySem.W.Frag) : Sp := fun vs H Q _ => ∃ x cols one two, vs = [.ref x] ∧ ExAt K H x cols one two ∧ (spots one two).length ≤ 40 ∧ (sentsL cols one two).length ≤ 1000 ∧ NoRing (sentsL cols one two) ∧ ∀ H', Same H H' → Q .non H'
theorem sc_ring : FnScope ["exchange", "left", "walk", "passed", "here", "sentence", "one"] ["exchange"] (defScope s_ring) := ⟨rfl, rfl, rfl, by decide +kernel, rfl, by decide +kernel, by decide +kernel⟩
theorem ok_ring (T : Tx K mg) : C8.Cal P w K mg base 2 "ring" (sp_ring K) [] := by
  refine cal_of T.f_ring T.g_ring sc_ring (fun _ _ _ _ _ _ us hl => match us, hl with | [_], _ => rfl) (fun vs H Q E h => ?_) (fun cdv A outer s H vs Q E hr h => ?_)
  · obtain ⟨x, cols, one, two, rfl, _⟩ := h
    rfl
  · obtain ⟨x, cols, one, two, rfl, he, hl, hsl, hno, k⟩ := h
    have nd := sc_ring.nd
    refine ⟨_, (pss_cons (ps_set (i := 1) nd rfl (Or.inr rfl) (C8.pe_c (ok_steps_in_rings T) hr (by decide) rfl (pa_cons (pv 0) pa_nil)))
      (pss_cons (ps_if (pt_cmpR (op_eqD hr.units) (pv 1) (pe_lst pa_nil) (nomark _)) (pss_one (ps_ret pe_non)) pss_nil)
      pss_never)), ?_⟩
    walk_at "nf"
    refine ⟨_, rfl, x, cols, one, two, rfl, he, hl, hsl, hno, fun H1 l e1 hl0 hl1 => ?_⟩
    refine ⟨_, rfl, Nat.zero_le _, fun p hp => ⟨.list [], .list [], .lst (xs := []) (SqL.of ((Same.refl H1).new hp _ _ hl1)) .nil, .lst (xs := []) (SqL.of upd_same) .nil, shp_nil, shp_nil, _, rfl, iteT (k _ (e1.new hp))⟩⟩
theorem sc_need_no_ring : FnScope ["exchange", "found"] ["exchange"] (defScope s_need_no_ring) := ⟨rfl, rfl, rfl, by decide +kernel, rfl, by decide +kernel, by decide +kernel⟩
theorem ok_need_no_ring (T : Tx K mg) : C8.Cal P w K mg base 3 "need_no_ring" (sp_ring K) [] := by
  refine cal_of T.f_need_no_ring T.g_need_no_ring sc_need_no_ring (fun _ _ _ _ _ _ us hl => match us, hl with | [_], _ => rfl) (fun vs H Q E h => ?_) (fun cdv A outer s H vs Q E hr h => ?_)
  · obtain ⟨x, cols, one, two, rfl, _⟩ := h
    rfl
  · obtain ⟨x, cols, one, two, rfl, he, hl, hsl, hno, k⟩ := h
    have nd := sc_need_no_ring.nd
    refine ⟨_, (pss_cons (ps_set (i := 1) nd rfl (Or.inl rfl) (C8.pe_c (ok_ring T) hr (by decide) rfl (pa_cons (pv 0) pa_nil)))
      (pss_one (ps_if (pt_cmpR op_notN (pv 1) pe_non (nomark _)) (pss_one ps_never) pss_nil))), ?_⟩
    walk_at "nf"
    exact ⟨_, rfl, x, cols, one, two, rfl, he, hl, hsl, hno, fun H1 e1 => ⟨_, rfl, rfl, _, rfl, iteF (k _ e1)⟩⟩
def sp_whole_rows (K : PySem.W.Frag) : Sp := fun vs H Q _ => ∃ x cols one two, vs = [.ref x] ∧ ExAt K H x cols one two ∧ ∀ H', Same H H' → Q .non H'
theorem sc_need_whole_rows : FnScope ["exchange"] ["exchange"] (defScope s_need_whole_rows) := ⟨rfl, rfl, rfl, by decide +kernel, rfl, by decide +kernel, by decide +kernel⟩
theorem ok_need_whole_rows (T : Tx K mg) : C8.Cal P w K mg base 1 "need_whole_rows" (sp_whole_rows K) [] := by
  refine cal_of T.f_need_whole_rows T.g_need_whole_rows sc_need_whole_rows (fun _ _ _ _ _ _ us hl => match us, hl with | [_], _ => rfl) (fun vs H Q E h => ?_) (fun cdv A outer s H vs Q E hr h => ?_)
  · obtain ⟨x, cols, one, two, rfl, _⟩ := h
    rfl
  · obtain ⟨x, cols, one, two, rfl, he, k⟩ := h
    have nd := sc_need_whole_rows.nd
    refine ⟨_, (pss_one (ps_if (pt_cmpR (op_neD hr.units) (pe_fld (pv 0) rfl) (pe_tup pa_nil) (nomark _)) (pss_one ps_never) pss_nil)), ?_⟩
    walk_at "nf"
    obtain ⟨c, x1, x2⟩ := he.div
    refine ⟨_, rfl, x1.fld T.cl_Exchange T.n_Exchange_divided ⟨Nat.zero_le _, fun p hp => ?_⟩⟩
    have e1 : Same H (upd H p (.tup [])) := (Same.refl _).new hp
    exact ⟨.tuple [], .tuple [], .tup (xs := []) (Same.tup e1 x2) .nil, .tup (xs := []) (SqT.of upd_same) .nil, shp_nilT, shp_nilT, _, rfl, iteF (k _ e1)⟩
theorem sc_need_orders : FnScope ["exchange"] ["exchange"] (defScope s_need_orders) := ⟨rfl, rfl, rfl, by decide +kernel, rfl, by decide +kernel, by decide +kernel⟩
theorem ok_need_orders (T : Tx K mg) : C8.Cal P w K mg base 4 "need_orders" (sp_ring K) [] := by
  refine cal_of T.f_need_orders T.g_need_orders sc_need_orders (fun _ _ _ _ _ _ us hl => match us, hl with | [_], _ => rfl) (fun vs H Q E h => ?_) (fun cdv A outer s H vs Q E hr h => ?_)
  · obtain ⟨x, cols, one, two, rfl, _⟩ := h
    rfl
  · obtain ⟨x, cols, one, two, rfl, he, hl, hsl, hno, k⟩ := h
    have nd := sc_need_orders.nd
    refine ⟨_, (pss_cons (ps_expr (C8.pe_c (ok_need_whole_rows T) hr (by decide) rfl (pa_cons (pv 0) pa_nil)))
      (pss_one (ps_expr (C8.pe_c (ok_need_no_ring T) hr (by decide) rfl (pa_cons (pv 0) pa_nil))))), ?_⟩
    walk_at "nf"
    exact ⟨_, rfl, x, cols, one, two, rfl, he, fun H1 e1 => ⟨_, rfl, x, cols, one, two, rfl, Same.ex e1 he, hl, hsl, hno, fun H2 e2 => k _ (e1.trans e2)⟩⟩
end
end NS
set_option Elab.async false
set_option linter.all false
/-! Standings as numbers and as lists: core Lean alone. -/
namespace NS
/-- ascending lists below n whose items are i or more -/
def Asc (n i : Nat) : List Nat → Prop
  | [] => True
  | a :: r => i ≤ a ∧ a < n ∧ Asc n (a + 1) r
theorem Asc.mono {n i j : Nat} (h : j ≤ i) : ∀ {s : List Nat}, Asc n i s → Asc n j s
  | [], _ => trivial
  | _ :: _, ⟨h1, h2, h3⟩ => ⟨Nat.le_trans h h1, h2, h3⟩
theorem Asc.lt {n : Nat} : ∀ {s : List Nat} {i : Nat}, Asc n i s → ∀ k ∈ s, i ≤ k ∧ k < n
  | [], _, _, k, hk => by cases hk
  | a :: r, i, ⟨h1, h2, h3⟩, k, hk => by
    rcases List.mem_cons.mp hk with e | hk
    · subst e; exact ⟨h1, h2⟩
    · have := Asc.lt h3 k hk; omega
theorem Asc.pairwise {n : Nat} : ∀ {s : List Nat} {i : Nat}, Asc n i s → s.Pairwise (· < ·)
  | [], _, _ => List.Pairwise.nil
  | a :: r, i, ⟨h1, h2, h3⟩ => List.Pairwise.cons (fun k hk => by have := Asc.lt h3 k hk; omega) (Asc.pairwise h3)
theorem Asc.nodup {n i : Nat} {s : List Nat} (h : Asc n i s) : s.Nodup := (Asc.pairwise h).imp (fun h => Nat.ne_of_lt h)
theorem asc_of {n : Nat} : ∀ {s : List Nat} {i : Nat}, s.Pairwise (· < ·) → (∀ k ∈ s, i ≤ k ∧ k < n) → Asc n i s
  | [], _, _, _ => trivial
  | a :: r, i, h, hb => by
    have ⟨h1, h2⟩ := List.pairwise_cons.mp h
    refine ⟨(hb a (List.mem_cons_self ..)).1, (hb a (List.mem_cons_self ..)).2, asc_of h2 fun k hk => ⟨h1 k hk, (hb k (List.mem_cons_of_mem _ hk)).2⟩⟩
theorem Asc.len {n : Nat} : ∀ {s : List Nat} {i : Nat}, Asc n i s → i ≤ n → s.length + i ≤ n
  | [], i, _, h => by simpa using h
  | a :: r, i, ⟨h1, h2, h3⟩, _ => by have := Asc.len h3 (by omega); simp only [List.length_cons]; omega
theorem Asc.append {n : Nat} : ∀ {s : List Nat} {i k : Nat}, Asc n i s → i ≤ k → k < n → (∀ j ∈ s, j < k) → Asc n i (s ++ [k])
  | [], i, k, _, h, hk, _ => ⟨h, hk, trivial⟩
  | a :: r, i, k, ⟨h1, h2, h3⟩, h, hk, hl => ⟨h1, h2, Asc.append h3 (hl a (List.mem_cons_self ..)) hk fun j hj => hl j (List.mem_cons_of_mem _ hj)⟩
/-! ### bits -/
/-- the bit of step k of n -/
def bit (n k : Nat) : Nat := 2 ^ (n - 1 - k)
/-- whether step k is in the standing m -/
def has (n m k : Nat) : Bool := m.testBit (n - 1 - k)
/-- the standing of a list -/
def val (n : Nat) : List Nat → Nat
  | [] => 0
  | a :: r => bit n a + val n r
/-- the list of a standing -/
def nums (n m : Nat) : List Nat := (List.range n).filter (has n m)
theorem val_lt {n : Nat} : ∀ {s : List Nat} {i : Nat}, Asc n i s → i ≤ n → val n s < 2 ^ (n - i)
  | [], i, _, _ => by simpa [val] using Nat.two_pow_pos (n - i)
  | a :: r, i, ⟨h1, h2, h3⟩, h => by
    have ih := val_lt h3 (by omega)
    have e : 2 ^ (n - a) = 2 ^ (n - 1 - a) + 2 ^ (n - 1 - a) := by
      have : n - a = (n - 1 - a) + 1 := by omega
      rw [this, Nat.pow_succ]; omega
    have e2 : n - (a + 1) = n - 1 - a := by omega
    have e3 : 2 ^ (n - a) ≤ 2 ^ (n - i) := Nat.pow_le_pow_right (by decide) (by omega)
    rw [e2] at ih
    show 2 ^ (n - 1 - a) + val n r < 2 ^ (n - i)
    omega
theorem val_bound {n : Nat} {s : List Nat} (h : Asc n 0 s) : val n s < 2 ^ n := by simpa using val_lt h (Nat.zero_le n)
theorem has_val {n : Nat} : ∀ {s : List Nat} {i : Nat}, Asc n i s → ∀ k, k < n → (has n (val n s) k = true ↔ k ∈ s)
  | [], _, _, k, _ => by simp [has, val]
  | a :: r, i, ⟨h1, h2, h3⟩, k, hk => by
    have hv := val_lt h3 (by omega)
    have e2 : n - (a + 1) = n - 1 - a := by omega
    rw [e2] at hv
    have ih := has_val h3 k hk
    unfold has at ih ⊢
    show (2 ^ (n - 1 - a) + val n r).testBit (n - 1 - k) = true ↔ _
    by_cases hka : k = a
    · subst hka
      rw [Nat.testBit_two_pow_add_eq, Nat.testBit_lt_two_pow hv]
      simp
    · by_cases hlt : k < a
      · have hbig : 2 ^ (n - 1 - a) + val n r < 2 ^ (n - 1 - k) := by
          have e : 2 ^ (n - 1 - a + 1) ≤ 2 ^ (n - 1 - k) := Nat.pow_le_pow_right (by decide) (by omega)
          rw [Nat.pow_succ] at e; omega
        rw [Nat.testBit_lt_two_pow hbig]
        constructor
        · intro h; cases h
        · intro h
          rcases List.mem_cons.mp h with e | h
          · exact absurd e hka
          · have := Asc.lt h3 k h; omega
      · rw [Nat.testBit_two_pow_add_gt (by omega)]
        rw [ih, List.mem_cons]
        constructor
        · exact Or.inr
        · rintro (e | h)
          · exact absurd e hka
          · exact h
theorem nums_asc (n m : Nat) : Asc n 0 (nums n m) := by
  refine asc_of ?_ fun k hk => ?_
  · exact List.Pairwise.filter _ List.pairwise_lt_range
  · have := List.mem_range.mp (List.mem_filter.mp hk).1; omega
theorem mem_nums {n m k : Nat} : k ∈ nums n m ↔ k < n ∧ has n m k = true := by
  unfold nums; rw [List.mem_filter, List.mem_range]
/-- two ascending lists with the same items are one -/
theorem asc_ext {s t : List Nat} (hs : s.Pairwise (· < ·)) (ht : t.Pairwise (· < ·)) (h : ∀ k, k ∈ s ↔ k ∈ t) : s = t := by
  induction s generalizing t with
  | nil =>
    cases t with
    | nil => rfl
    | cons b t => exact absurd ((h b).mpr (List.mem_cons_self ..)) (by simp)
  | cons a s ih =>
    cases t with
    | nil => exact absurd ((h a).mp (List.mem_cons_self ..)) (by simp)
    | cons b t =>
      have ⟨hs1, hs2⟩ := List.pairwise_cons.mp hs
      have ⟨ht1, ht2⟩ := List.pairwise_cons.mp ht
      have e : a = b := by
        have h1 := (h a).mp (List.mem_cons_self ..)
        have h2 := (h b).mpr (List.mem_cons_self ..)
        rcases List.mem_cons.mp h1 with e | h1
        · exact e
        · rcases List.mem_cons.mp h2 with e | h2
          · exact e.symm
          · have := ht1 a h1; have := hs1 b h2; omega
      subst e
      refine congrArg (a :: ·) (ih hs2 ht2 fun k => ?_)
      constructor
      · intro hk
        rcases List.mem_cons.mp ((h k).mp (List.mem_cons_of_mem _ hk)) with e | q
        · have := hs1 k hk; omega
        · exact q
      · intro hk
        rcases List.mem_cons.mp ((h k).mpr (List.mem_cons_of_mem _ hk)) with e | q
        · have := ht1 k hk; omega
        · exact q
theorem nums_val {n : Nat} {s : List Nat} (h : Asc n 0 s) : nums n (val n s) = s := by
  refine asc_ext (nums_asc n _).pairwise h.pairwise fun k => ?_
  rw [mem_nums]
  constructor
  · rintro ⟨hk, hb⟩; exact (has_val h k hk).mp hb
  · intro hk
    have hl := (Asc.lt h k hk).2
    exact ⟨hl, (has_val h k hl).mpr hk⟩
/-- a standing is told by its bits -/
theorem eq_of_has {n m p : Nat} (hm : m < 2 ^ n) (hp : p < 2 ^ n) (h : ∀ k, k < n → has n m k = has n p k) : m = p := by
  refine Nat.eq_of_testBit_eq fun i => ?_
  by_cases hi : i < n
  · have := h (n - 1 - i) (by omega)
    unfold has at this
    rwa [show n - 1 - (n - 1 - i) = i by omega] at this
  · have e : 2 ^ n ≤ 2 ^ i := Nat.pow_le_pow_right (by decide) (by omega)
    rw [Nat.testBit_lt_two_pow (Nat.lt_of_lt_of_le hm e), Nat.testBit_lt_two_pow (Nat.lt_of_lt_of_le hp e)]
theorem val_nums {n m : Nat} (hm : m < 2 ^ n) : val n (nums n m) = m := by
  refine eq_of_has (val_bound (nums_asc n m)) hm fun k hk => ?_
  have h1 := has_val (nums_asc n m) k hk
  rw [mem_nums] at h1
  cases e : has n m k with
  | true => exact h1.mpr ⟨hk, e⟩
  | false =>
    cases e2 : has n (val n (nums n m)) k with
    | true => rw [(h1.mp e2).2] at e; cases e
    | false => rfl
theorem has_zero (n k : Nat) : has n 0 k = false := by simp [has]
theorem has_or {n m k j : Nat} (hk : k < n) (hj : j < n) : has n (m ||| bit n k) j = (has n m j || decide (j = k)) := by
  unfold has bit
  rw [Nat.testBit_or, Nat.testBit_two_pow]
  congr 1
  by_cases e : j = k
  · subst e; simp
  · have : ¬ (n - 1 - k = n - 1 - j) := by omega
    simp [e, this]
theorem or_lt {n m k : Nat} (hm : m < 2 ^ n) (hk : k < n) : m ||| bit n k < 2 ^ n := Nat.or_lt_two_pow hm (Nat.pow_lt_pow_right (by decide) (by omega))
theorem and_bit {n m k : Nat} : (m &&& bit n k = 0) ↔ has n m k = false := by
  unfold bit has
  constructor
  · intro h
    have := congrArg (fun x => x.testBit (n - 1 - k)) h
    simpa [Nat.testBit_and] using this
  · intro h
    refine Nat.eq_of_testBit_eq fun i => ?_
    rw [Nat.testBit_and, Nat.testBit_two_pow]
    by_cases e : n - 1 - k = i
    · subst e; simp [h]
    · simp [e]
/-- the and of two standings is the second exactly if it is in the first -/
theorem and_eq {n m p : Nat} (hp : p < 2 ^ n) : (m &&& p = p) ↔ ∀ k, k < n → has n p k = true → has n m k = true := by
  unfold has
  constructor
  · intro h k hk hb
    have := congrArg (fun x => x.testBit (n - 1 - k)) h
    simp only [Nat.testBit_and, hb, Bool.and_true] at this
    exact this
  · intro h
    refine Nat.eq_of_testBit_eq fun i => ?_
    rw [Nat.testBit_and]
    by_cases hi : i < n
    · have := h (n - 1 - i) (by omega)
      rw [show n - 1 - (n - 1 - i) = i by omega] at this
      cases e : p.testBit i with
      | true => rw [this e]; rfl
      | false => simp
    · have e : 2 ^ n ≤ 2 ^ i := Nat.pow_le_pow_right (by decide) (by omega)
      rw [Nat.testBit_lt_two_pow (Nat.lt_of_lt_of_le hp e)]; simp
/-! ### the order of lists -/
def lexlt : List Nat → List Nat → Prop
  | a :: s, b :: t => a < b ∨ (a = b ∧ lexlt s t)
  | _, _ => False
theorem lexlt_app {k l : Nat} : ∀ {s t : List Nat}, lexlt s t → s.length = t.length → lexlt (s ++ [k]) (t ++ [l])
  | [], _, h, _ => h.elim
  | _ :: _, [], h, _ => h.elim
  | a :: s, b :: t, h, e => by
    rcases h with h | ⟨h1, h2⟩
    · exact Or.inl h
    · exact Or.inr ⟨h1, lexlt_app h2 (by simpa using e)⟩
theorem lexlt_last {k l : Nat} (h : k < l) : ∀ s : List Nat, lexlt (s ++ [k]) (s ++ [l])
  | [] => Or.inl h
  | _ :: s => Or.inr ⟨rfl, lexlt_last h s⟩
theorem val_anti {n : Nat} : ∀ {s t : List Nat} {i : Nat}, lexlt s t → Asc n i s → Asc n i t → val n t < val n s
  | [], _, _, h, _, _ => h.elim
  | _ :: _, [], _, h, _, _ => h.elim
  | a :: s, b :: t, i, h, ⟨h1, h2, h3⟩, ⟨g1, g2, g3⟩ => by
    rcases h with h | ⟨rfl, h⟩
    · have hv : val n (b :: t) < 2 ^ (n - b) := val_lt (⟨Nat.le_refl _, g2, g3⟩ : Asc n b (b :: t)) (by omega)
      have e : 2 ^ (n - b) ≤ 2 ^ (n - 1 - a) := Nat.pow_le_pow_right (by decide) (by omega)
      show _ < 2 ^ (n - 1 - a) + val n s
      omega
    · have := val_anti h h3 g3
      show bit n a + _ < bit n a + _
      omega
/-! ### the subsets as the law lists them -/
/-- whether k may follow -/
def fits (s : List Nat) (k : Nat) : Bool := match s.getLast? with
  | none => true
  | some l => decide (l < k)
def grow (n : Nat) (s : List Nat) : List (List Nat) := ((List.range n).filter (fits s)).map fun k => s ++ [k]
def lay (n : Nat) : Nat → List (List Nat)
  | 0 => [[]]
  | j + 1 => (lay n j).flatMap (grow n)
def subs (n : Nat) : List (List Nat) := (List.range (n + 1)).flatMap (lay n)
theorem fits_iff {n i : Nat} {s : List Nat} (h : Asc n i s) (k : Nat) : fits s k = true ↔ ∀ j ∈ s, j < k := by
  unfold fits
  cases e : s.getLast? with
  | none =>
    have : s = [] := by simpa using e
    subst this; simp
  | some l =>
    obtain ⟨r, rfl⟩ := List.getLast?_eq_some_iff.mp e
    have hp := h.pairwise
    have h3 := (List.pairwise_append.mp hp).2.2
    simp only [decide_eq_true_eq]
    constructor
    · intro hlk j hj
      rcases List.mem_append.mp hj with hj | hj
      · have := h3 j hj l (by simp); omega
      · have : j = l := by simpa using hj
        omega
    · intro h'; exact h' l (by simp)
theorem mem_lay {n : Nat} : ∀ {j : Nat} {s : List Nat}, s ∈ lay n j ↔ s.length = j ∧ Asc n 0 s
  | 0, s => by
    show s ∈ [[]] ↔ _
    rw [List.mem_singleton]
    constructor
    · rintro rfl; exact ⟨rfl, trivial⟩
    · rintro ⟨h, _⟩; exact List.length_eq_zero_iff.mp h
  | j + 1, s => by
    show s ∈ (lay n j).flatMap (grow n) ↔ _
    rw [List.mem_flatMap]
    constructor
    · rintro ⟨r, hr, hs⟩
      have ⟨h1, h2⟩ := mem_lay.mp hr
      unfold grow at hs
      obtain ⟨k, hk, rfl⟩ := List.mem_map.mp hs
      have ⟨hk1, hk2⟩ := List.mem_filter.mp hk
      refine ⟨by simp [h1], Asc.append h2 (Nat.zero_le _) (List.mem_range.mp hk1) ((fits_iff h2 k).mp hk2)⟩
    · rintro ⟨h1, h2⟩
      have hne : s ≠ [] := by intro e; subst e; cases h1
      have e := List.dropLast_concat_getLast hne
      have hp := h2.pairwise
      rw [← e] at hp
      have hq := List.pairwise_append.mp hp
      have hr : Asc n 0 s.dropLast := asc_of hq.1 fun k hk => Asc.lt h2 k (List.dropLast_subset s hk)
      refine ⟨s.dropLast, mem_lay.mpr ⟨by simp [h1], hr⟩, ?_⟩
      unfold grow
      refine List.mem_map.mpr ⟨s.getLast hne, List.mem_filter.mpr ⟨List.mem_range.mpr (Asc.lt h2 _ (List.getLast_mem hne)).2, (fits_iff hr _).mpr fun j hj => hq.2.2 j hj _ (by simp)⟩, e⟩
theorem pw_lay {n : Nat} : ∀ j, (lay n j).Pairwise lexlt
  | 0 => List.pairwise_singleton _ _
  | j + 1 => by
    show ((lay n j).flatMap (grow n)).Pairwise lexlt
    rw [List.pairwise_flatMap]
    refine ⟨fun s _ => ?_, ?_⟩
    · unfold grow
      rw [List.pairwise_map]
      exact (List.Pairwise.filter _ List.pairwise_lt_range).imp fun h => lexlt_last h s
    · have := pw_lay (n := n) j
      refine (List.Pairwise.and_mem.mp this).imp ?_
      rintro a b ⟨ha, hb, hab⟩ x hx y hy
      unfold grow at hx hy
      obtain ⟨k, _, rfl⟩ := List.mem_map.mp hx
      obtain ⟨l, _, rfl⟩ := List.mem_map.mp hy
      exact lexlt_app hab (by rw [(mem_lay.mp ha).1, (mem_lay.mp hb).1])
theorem pw_val {n : Nat} (j : Nat) : ((lay n j).map (val n)).Pairwise (· > ·) := by
  rw [List.pairwise_map]
  refine (List.Pairwise.and_mem.mp (pw_lay (n := n) j)).imp ?_
  rintro a b ⟨ha, hb, hab⟩
  exact val_anti hab (mem_lay.mp ha).2 (mem_lay.mp hb).2
theorem lay_nil {n j : Nat} (h : n < j) : lay n j = [] := by
  rw [List.eq_nil_iff_forall_not_mem]
  intro s hs
  have ⟨h1, h2⟩ := mem_lay.mp hs
  have := Asc.len h2 (Nat.zero_le n)
  omega
theorem mem_subs {n : Nat} {s : List Nat} : s ∈ subs n ↔ Asc n 0 s := by
  unfold subs
  rw [List.mem_flatMap]
  constructor
  · rintro ⟨j, _, h⟩; exact (mem_lay.mp h).2
  · intro h
    have := Asc.len h (Nat.zero_le n)
    exact ⟨s.length, List.mem_range.mpr (by omega), mem_lay.mpr ⟨rfl, h⟩⟩
/-- descending lists with the same items are one -/
theorem desc_ext {s t : List Nat} (hs : s.Pairwise (· > ·)) (ht : t.Pairwise (· > ·)) (h : ∀ k, k ∈ s ↔ k ∈ t) : s = t := by
  have e : s.reverse = t.reverse := asc_ext (by rw [List.pairwise_reverse]; exact hs) (by rw [List.pairwise_reverse]; exact ht) fun k => by
    rw [List.mem_reverse, List.mem_reverse]; exact h k
  have := congrArg List.reverse e
  simpa using this
end NS
set_option Elab.async false
set_option linter.all false
/-! What plans within a room reach: the law's list, the program's layers and needs. Core Lean alone. -/
namespace NS
structure Pb where
  n : Nat
  prs : List (Nat × Nat)
  gain : Nat → Int
  begun : Int
structure Pb.Ok (p : Pb) : Prop where
  lt : ∀ q ∈ p.prs, q.1 < p.n ∧ q.2 < p.n
  ne : ∀ q ∈ p.prs, q.1 ≠ q.2
variable {p : Pb} {top : Int}
/-- rows at a standing given as a list, as a number -/
def Pb.rowsL (p : Pb) (s : List Nat) : Int := p.begun + (s.map p.gain).sum
def Pb.rows (p : Pb) (m : Nat) : Int := p.rowsL (nums p.n m)
/-- whether all that must come ahead of k is in m -/
def Pb.free (p : Pb) (m k : Nat) : Bool := p.prs.all fun q => decide (q.2 ≠ k) || has p.n m q.1
theorem free_iff {m k : Nat} : p.free m k = true ↔ ∀ a, (a, k) ∈ p.prs → has p.n m a = true := by
  unfold Pb.free
  rw [List.all_eq_true]
  constructor
  · intro h a ha
    have := h (a, k) ha
    simpa using this
  · rintro h ⟨a, b⟩ hq
    by_cases e : b = k
    · subst e; simp [h a hq]
    · simp [e]
def Pb.nxt (p : Pb) (m : Nat) : List Nat := (List.range p.n).filter fun k => !has p.n m k && p.free m k
theorem mem_nxt {m k : Nat} : k ∈ p.nxt m ↔ k < p.n ∧ has p.n m k = false ∧ p.free m k = true := by
  unfold Pb.nxt; rw [List.mem_filter, List.mem_range, Bool.and_eq_true, Bool.not_eq_true']
def Pb.within (p : Pb) (top : Int) (m : Nat) : List Nat := ((p.nxt m).map fun k => m ||| bit p.n k).filter fun x => decide (p.rows x ≤ top)
theorem mem_within {m x : Nat} : x ∈ p.within top m ↔ ∃ k, k ∈ p.nxt m ∧ x = m ||| bit p.n k ∧ p.rows x ≤ top := by
  unfold Pb.within
  rw [List.mem_filter, List.mem_map, decide_eq_true_eq]
  constructor
  · rintro ⟨⟨k, hk, rfl⟩, hr⟩; exact ⟨k, hk, rfl, hr⟩
  · rintro ⟨k, hk, rfl, hr⟩; exact ⟨⟨k, hk, rfl⟩, hr⟩
/-- strict plans within the room lead there -/
inductive Reach (p : Pb) (top : Int) : Nat → Prop
  | zero : p.begun ≤ top → Reach p top 0
  | step {m k : Nat} : Reach p top m → k ∈ p.nxt m → p.rows (m ||| bit p.n k) ≤ top → Reach p top (m ||| bit p.n k)
theorem nums_zero (n : Nat) : nums n 0 = [] := by
  rw [List.eq_nil_iff_forall_not_mem]
  intro k hk
  have := (mem_nums.mp hk).2
  rw [has_zero] at this; cases this
theorem rows_zero : p.rows 0 = p.begun := by
  unfold Pb.rows Pb.rowsL
  rw [nums_zero]; simp
theorem Reach.rows {m : Nat} (h : Reach p top m) : p.rows m ≤ top := by
  cases h with
  | zero h => rw [rows_zero]; exact h
  | step _ _ h => exact h
theorem Reach.lt {m : Nat} (h : Reach p top m) : m < 2 ^ p.n := by
  induction h with
  | zero _ => exact Nat.two_pow_pos _
  | step _ hk _ ih => exact or_lt ih (mem_nxt.mp hk).1
theorem Reach.strict {m : Nat} (ok : p.Ok) (h : Reach p top m) : ∀ q ∈ p.prs, has p.n m q.2 = true → has p.n m q.1 = true := by
  induction h with
  | zero _ => intro q _ h; rw [has_zero] at h; cases h
  | step hm hk _ ih =>
    intro q hq hb
    have ⟨k1, k2, k3⟩ := mem_nxt.mp hk
    rw [has_or k1 (ok.lt q hq).2, Bool.or_eq_true, decide_eq_true_eq] at hb
    rw [has_or k1 (ok.lt q hq).1, Bool.or_eq_true, decide_eq_true_eq]
    rcases hb with hb | hb
    · exact Or.inl (ih q hq hb)
    · refine Or.inl (free_iff.mp k3 q.1 ?_)
      rw [← hb]; exact hq
/-! ### the order that reaches the whole standing -/
def whole (n : Nat) : Nat := val n (List.range n)
theorem asc_range (n : Nat) : Asc n 0 (List.range n) := asc_of List.pairwise_lt_range fun k hk => by have := List.mem_range.mp hk; omega
theorem has_whole {n k : Nat} (h : k < n) : has n (whole n) k = true := (has_val (asc_range n) k h).mpr (List.mem_range.mpr h)
theorem whole_of {n m : Nat} (hm : m < 2 ^ n) (h : ∀ k, k < n → has n m k = true) : m = whole n :=
  eq_of_has hm (val_bound (asc_range n)) fun k hk => by rw [h k hk, has_whole hk]
def Ranked (p : Pb) (m : Nat) (f : Nat → Nat) : Prop := ∀ q ∈ p.prs, has p.n m q.2 = true → has p.n m q.1 = true ∧ f q.1 < f q.2
def over (f : Nat → Nat) : Nat → Nat
  | 0 => 0
  | n + 1 => max (over f n) (f n + 1)
theorem lt_over {f : Nat → Nat} : ∀ {n k : Nat}, k < n → f k < over f n
  | 0, k, h => absurd h (Nat.not_lt_zero _)
  | n + 1, k, h => by
    show f k < max (over f n) (f n + 1)
    by_cases e : k = n
    · subst e; omega
    · have := lt_over (f := f) (n := n) (k := k) (by omega); omega
theorem Reach.ranked {m : Nat} (ok : p.Ok) (h : Reach p top m) : ∃ f, Ranked p m f := by
  induction h with
  | zero _ => exact ⟨id, fun q _ h => by rw [has_zero] at h; cases h⟩
  | @step m k hm hk _ ih =>
    obtain ⟨f, hf⟩ := ih
    have ⟨k1, k2, k3⟩ := mem_nxt.mp hk
    refine ⟨fun j => if j = k then over f p.n else f j, fun q hq hb => ?_⟩
    rw [has_or k1 (ok.lt q hq).2, Bool.or_eq_true, decide_eq_true_eq] at hb
    rw [has_or k1 (ok.lt q hq).1, Bool.or_eq_true, decide_eq_true_eq]
    by_cases e : q.2 = k
    · have ha : has p.n m q.1 = true := free_iff.mp k3 q.1 (by rw [← e]; exact hq)
      have hne : q.1 ≠ k := by intro h; rw [h, k2] at ha; cases ha
      refine ⟨Or.inl ha, ?_⟩
      simp only [e, if_true, if_neg hne]
      exact lt_over (ok.lt q hq).1
    · have hb' : has p.n m q.2 = true := by
        rcases hb with h | h
        · exact h
        · exact absurd h e
      have ⟨ha, hl⟩ := hf q hq hb'
      have hne : q.1 ≠ k := by intro h; rw [h, k2] at ha; cases ha
      refine ⟨Or.inl ha, ?_⟩
      simp only [if_neg e, if_neg hne]
      exact hl
/-- there is an order -/
structure Pb.Ord (p : Pb) (f : Nat → Nat) : Prop where
  lt : ∀ q ∈ p.prs, f q.1 < f q.2
theorem ord_of (ok : p.Ok) (h : Reach p top (whole p.n)) : ∃ f, p.Ord f := by
  obtain ⟨f, hf⟩ := h.ranked ok
  exact ⟨f, ⟨fun q hq => (hf q hq (has_whole (ok.lt q hq).2)).2⟩⟩
/-- a standing that is not the whole one has a next step -/
theorem nxt_some {f : Nat → Nat} (ok : p.Ok) (o : p.Ord f) {m : Nat} : ∀ (r k : Nat), f k ≤ r → k < p.n → has p.n m k = false → p.nxt m ≠ []
  | r, k, hr, hk, hm => by
    by_cases e : p.free m k = true
    · have : k ∈ p.nxt m := mem_nxt.mpr ⟨hk, hm, e⟩
      intro q; rw [q] at this; cases this
    · have : ∃ a, (a, k) ∈ p.prs ∧ has p.n m a = false := by
        refine Classical.byContradiction fun hc => e (free_iff.mpr fun a ha => ?_)
        cases q : has p.n m a with
        | true => rfl
        | false => exact absurd ⟨a, ha, q⟩ hc
      obtain ⟨a, ha, hb⟩ := this
      have hl := o.lt _ ha
      have hl2 : f a < f k := hl
      match r, hr with
      | 0, hr => omega
      | r + 1, hr => exact nxt_some ok o r a (by omega) (ok.lt _ ha).1 hb
theorem nxt_nil {f : Nat → Nat} (ok : p.Ok) (o : p.Ord f) {m : Nat} (hm : m < 2 ^ p.n) (h : p.nxt m = []) : m = whole p.n := by
  refine whole_of hm fun k hk => ?_
  cases q : has p.n m k with
  | true => rfl
  | false => exact absurd h (nxt_some ok o (f k) k (Nat.le_refl _) hk q)
theorem nxt_whole : p.nxt (whole p.n) = [] := by
  rw [List.eq_nil_iff_forall_not_mem]
  intro k hk
  have ⟨h1, h2, _⟩ := mem_nxt.mp hk
  rw [has_whole h1] at h2; cases h2
/-- no ring: steps each of which has one ahead among them are none -/
theorem no_left {f : Nat → Nat} (o : p.Ord f) {left : List Nat} (h : ∀ k ∈ left, ∃ a ∈ left, (a, k) ∈ p.prs) : left = [] := by
  have : ∀ r k, f k ≤ r → k ∉ left := by
    intro r
    induction r with
    | zero =>
      intro k hr hk
      obtain ⟨a, _, hq⟩ := h k hk
      have : f a < f k := o.lt _ hq
      omega
    | succ r ih =>
      intro k hr hk
      obtain ⟨a, ha, hq⟩ := h k hk
      have : f a < f k := o.lt _ hq
      exact ih a (by omega) ha
  rw [List.eq_nil_iff_forall_not_mem]
  exact fun k hk => this (f k) k (Nat.le_refl _) hk
/-! ### the needs -/
def minL : Int → List Int → Int
  | a, [] => a
  | a, b :: r => minL (if b < a then b else a) r
/-- m is the least of a list -/
def IsMin (m : Int) (l : List Int) : Prop := m ∈ l ∧ ∀ x ∈ l, m ≤ x
theorem IsMin.uniq {m k : Int} {l : List Int} (h : IsMin m l) (g : IsMin k l) : m = k := Int.le_antisymm (h.2 k g.1) (g.2 m h.1)
/-- what the program's needs tell: N of each standing -/
structure Needs (p : Pb) (N : Nat → Int) (m : Nat) : Prop where
  nil : p.nxt m = [] → N m = p.rows m
  cons : p.nxt m ≠ [] → ∃ l, IsMin l ((p.nxt m).map fun k => N (m ||| bit p.n k)) ∧ N m = (if p.rows m > l then p.rows m else l)
/-- strict plans lead there -/
inductive SR (p : Pb) : Nat → Nat → Prop
  | zero : SR p 0 0
  | step {j m k : Nat} : SR p j m → k ∈ p.nxt m → SR p (j + 1) (m ||| bit p.n k)
/-- the other steps can be done within the room -/
inductive Fin' (p : Pb) (top : Int) : Nat → Prop
  | done {m : Nat} : p.rows m ≤ top → p.nxt m = [] → Fin' p top m
  | step {m k : Nat} : p.rows m ≤ top → k ∈ p.nxt m → Fin' p top (m ||| bit p.n k) → Fin' p top m
theorem Fin'.rows {m : Nat} (h : Fin' p top m) : p.rows m ≤ top := by
  cases h with
  | done h _ => exact h
  | step h _ _ => exact h
theorem SR.lt {j m : Nat} (h : SR p j m) : m < 2 ^ p.n := by
  induction h with
  | zero => exact Nat.two_pow_pos _
  | step _ hk ih => exact or_lt ih (mem_nxt.mp hk).1
def cnt (n m : Nat) : Nat := (nums n m).length
theorem length_filter_or {n m k : Nat} (hk : k < n) (hm : has n m k = false) : cnt n (m ||| bit n k) = cnt n m + 1 := by
  unfold cnt nums
  have : ∀ l : List Nat, l.Nodup → (∀ j ∈ l, j < n) → (l.filter (has n (m ||| bit n k))).length = (l.filter (has n m)).length + (if k ∈ l then 1 else 0) := by
    intro l
    induction l with
    | nil => intro _ _; simp
    | cons a l ih =>
      intro hn hl
      have ⟨h1, h2⟩ := List.nodup_cons.mp hn
      have ih := ih h2 fun j hj => hl j (List.mem_cons_of_mem _ hj)
      have ha := hl a (List.mem_cons_self ..)
      rw [List.filter_cons, List.filter_cons, has_or hk ha]
      by_cases e : a = k
      · subst e
        simp only [hm, Bool.false_or, decide_true, if_true, List.mem_cons, true_or, h1, if_false, List.length_cons] at ih ⊢
        rw [ih]; simp
      · have e' : ¬ k = a := fun q => e q.symm
        simp only [e, decide_false, Bool.or_false, List.mem_cons, e', false_or]
        cases has n m a
        · simp only [Bool.false_eq_true, if_false]; exact ih
        · simp only [if_true, List.length_cons]; rw [ih]; omega
  rw [this _ List.nodup_range (fun j hj => List.mem_range.mp hj), if_pos (List.mem_range.mpr hk)]
theorem SR.cnt {j m : Nat} (h : SR p j m) : cnt p.n m = j := by
  induction h with
  | zero => unfold NS.cnt; rw [nums_zero]; rfl
  | step _ hk ih =>
    have ⟨h1, h2, _⟩ := mem_nxt.mp hk
    rw [length_filter_or h1 h2, ih]
theorem cnt_le (n m : Nat) : cnt n m ≤ n := by
  unfold cnt nums
  have := List.length_filter_le (has n m) (List.range n)
  simpa using this
theorem SR.le {j m : Nat} (h : SR p j m) : j ≤ p.n := by
  rw [← h.cnt]; exact cnt_le _ _
theorem SR.last {m k : Nat} (h : SR p p.n m) : k ∉ p.nxt m := fun hk => by
  have := (SR.step h hk).le; omega
theorem need_iff {N : Nat → Int} (hN : ∀ j m, SR p j m → Needs p N m) : ∀ (d j m : Nat), d + j = p.n → SR p j m → (N m ≤ top ↔ Fin' p top m)
  | d, j, m, e, h => by
    by_cases hx : p.nxt m = []
    · rw [(hN j m h).nil hx]
      constructor
      · intro hr; exact Fin'.done hr hx
      · intro hf; exact hf.rows
    · obtain ⟨l, hl, hNm⟩ := (hN j m h).cons hx
      match d, e with
      | 0, e =>
        exfalso
        obtain ⟨k, hk⟩ := List.exists_mem_of_ne_nil _ hx
        have : j = p.n := by omega
        subst this
        exact h.last hk
      | d + 1, e =>
        rw [hNm]
        constructor
        · intro hm
          have hr : p.rows m ≤ top := by split at hm <;> omega
          have hl2 : l ≤ top := by split at hm <;> omega
          obtain ⟨k, hk, ek⟩ := List.mem_map.mp hl.1
          have ih := need_iff hN d (j + 1) (m ||| bit p.n k) (by omega) (SR.step h hk)
          exact Fin'.step hr hk (ih.mp (by rw [ek]; exact hl2))
        · intro hf
          have hr := hf.rows
          cases hf with
          | done _ h0 => exact absurd h0 hx
          | step _ hk hf =>
            have ih := need_iff hN d (j + 1) _ (by omega) (SR.step h hk)
            have h1 := ih.mpr hf
            have h2 := hl.2 _ (List.mem_map.mpr ⟨_, hk, rfl⟩)
            split <;> omega
theorem reach_fin {f : Nat → Nat} (ok : p.Ok) (o : p.Ord f) {m : Nat} (h : Fin' p top m) : Reach p top m → Reach p top (whole p.n) := by
  induction h with
  | done _ h0 =>
    intro hr
    rw [nxt_nil ok o hr.lt h0] at hr
    exact hr
  | step _ hk hf ih => intro hr; exact ih (Reach.step hr hk hf.rows)
theorem fin_reach {m : Nat} (h : Reach p top m) : Fin' p top m → Fin' p top 0 := by
  induction h with
  | zero _ => exact id
  | step hm hk _ ih => intro hf; exact ih (Fin'.step hm.rows hk hf)
/-- there is an order within the room exactly if the least need is not above it -/
theorem need_zero {N : Nat → Int} {f : Nat → Nat} (ok : p.Ok) (o : p.Ord f) (hN : ∀ j m, SR p j m → Needs p N m) : N 0 ≤ top ↔ Reach p top (whole p.n) := by
  rw [need_iff hN p.n 0 0 (by omega) SR.zero]
  constructor
  · intro h
    exact reach_fin ok o h (Reach.zero (by rw [← rows_zero]; exact h.rows))
  · intro h
    exact fin_reach h (Fin'.done h.rows nxt_whole)
/-! ### the law's list -/
open Classical in
noncomputable def dueL (p : Pb) (top : Int) (l : List (List Nat)) : List (List Nat) := l.filter fun s => decide (Reach p top (val p.n s))
open Classical in
noncomputable def due (p : Pb) (top : Int) : List (List Nat) := dueL p top (subs p.n)
open Classical in
theorem mem_due {s : List Nat} : s ∈ due p top ↔ Asc p.n 0 s ∧ Reach p top (val p.n s) := by
  unfold due dueL
  rw [List.mem_filter, mem_subs, decide_eq_true_eq]
def strictB (p : Pb) (s : List Nat) : Bool := p.prs.all fun q => !(decide (q.2 ∈ s) && !decide (q.1 ∈ s))
/-- one turn of the law's search -/
def fitB (p : Pb) (top : Int) (found : List (List Nat)) (s : List Nat) : Bool :=
  (strictB p s && decide (p.rowsL s ≤ top)) && (decide (s = []) || s.any fun k => decide (s.filter (fun j => decide (j ≠ k)) ∈ found))
def turnL (p : Pb) (top : Int) (found : List (List Nat)) (s : List Nat) : List (List Nat) := if fitB p top found s = true then found ++ [s] else found
theorem rows_val {s : List Nat} (h : Asc p.n 0 s) : p.rows (val p.n s) = p.rowsL s := by
  unfold Pb.rows; rw [nums_val h]
theorem asc_filter {n i : Nat} (q : Nat → Bool) {s : List Nat} (h : Asc n i s) : Asc n i (s.filter q) :=
  asc_of (List.Pairwise.filter _ h.pairwise) fun k hk => Asc.lt h k (List.mem_filter.mp hk).1
theorem val_drop {n : Nat} {s : List Nat} (h : Asc n 0 s) {k : Nat} (hk : k ∈ s) : val n (s.filter fun j => decide (j ≠ k)) ||| bit n k = val n s := by
  have hkn := (Asc.lt h k hk).2
  have hf := asc_filter (fun j => decide (j ≠ k)) h
  refine eq_of_has (or_lt (val_bound hf) hkn) (val_bound h) fun j hj => ?_
  rw [has_or hkn hj]
  have h1 := has_val h j hj
  have h2 := has_val hf j hj
  rw [List.mem_filter, decide_eq_true_eq] at h2
  by_cases e : j = k
  · subst e
    rw [h1.mpr hk]; simp
  · cases e1 : has n (val n s) j with
    | true => rw [h2.mpr ⟨h1.mp e1, e⟩]; rfl
    | false =>
      cases e2 : has n (val n (s.filter fun j => decide (j ≠ k))) j with
      | false => simp [e]
      | true => rw [h1.mpr (h2.mp e2).1] at e1; cases e1
theorem strictB_iff {s : List Nat} (ok : p.Ok) (h : Asc p.n 0 s) : strictB p s = true ↔ ∀ q ∈ p.prs, has p.n (val p.n s) q.2 = true → has p.n (val p.n s) q.1 = true := by
  unfold strictB
  rw [List.all_eq_true]
  constructor
  · intro hs q hq hb
    have := hs q hq
    rw [has_val h _ (ok.lt q hq).2] at hb
    rw [has_val h _ (ok.lt q hq).1]
    simpa [hb] using this
  · intro hs q hq
    have := hs q hq
    rw [has_val h _ (ok.lt q hq).2, has_val h _ (ok.lt q hq).1] at this
    by_cases e : q.2 ∈ s
    · simp [this e]
    · simp [e]
theorem reach_list {s : List Nat} (ok : p.Ok) (h : Asc p.n 0 s) : Reach p top (val p.n s) ↔
    (∀ q ∈ p.prs, has p.n (val p.n s) q.2 = true → has p.n (val p.n s) q.1 = true) ∧ p.rowsL s ≤ top ∧ (s = [] ∨ ∃ k ∈ s, Reach p top (val p.n (s.filter fun j => decide (j ≠ k)))) := by
  constructor
  · intro hr
    refine ⟨hr.strict ok, by rw [← rows_val h]; exact hr.rows, ?_⟩
    generalize e : val p.n s = m at hr
    cases hr with
    | zero _ =>
      left
      have := nums_val h
      rw [e, nums_zero] at this
      exact this.symm
    | @step m k hm hk _ =>
      right
      have ⟨h1, h2, _⟩ := mem_nxt.mp hk
      have hks : k ∈ s := (has_val h k h1).mp (by rw [e, has_or h1 h1]; simp)
      refine ⟨k, hks, ?_⟩
      have hf := asc_filter (fun j => decide (j ≠ k)) h
      have e2 : val p.n (s.filter fun j => decide (j ≠ k)) = m := by
        refine eq_of_has (val_bound hf) hm.lt fun j hj => ?_
        have h3 := has_val hf j hj
        rw [List.mem_filter, decide_eq_true_eq, ← has_val h j hj, e, has_or h1 hj] at h3
        by_cases ej : j = k
        · subst ej
          rw [h2]
          cases q : has p.n (val p.n (s.filter fun j' => decide (j' ≠ j))) j with
          | false => rfl
          | true => exact absurd rfl (h3.mp q).2
        · cases q : has p.n m j with
          | true => exact h3.mpr ⟨by rw [q]; rfl, ej⟩
          | false =>
            cases q2 : has p.n (val p.n (s.filter fun j' => decide (j' ≠ k))) j with
            | false => rfl
            | true =>
              have := (h3.mp q2).1
              rw [q] at this
              simp [ej] at this
      rw [e2]; exact hm
  · rintro ⟨h1, h2, h3⟩
    rcases h3 with rfl | ⟨k, hk, hr⟩
    · refine Reach.zero ?_
      have : p.rowsL [] = p.begun := by unfold Pb.rowsL; simp
      rw [← this]; exact h2
    · have e := val_drop h hk
      have hkn := (Asc.lt h k hk).2
      have hf := asc_filter (fun j => decide (j ≠ k)) h
      rw [← e]
      refine Reach.step hr (mem_nxt.mpr ⟨hkn, ?_, free_iff.mpr fun a ha => ?_⟩) (by rw [e, rows_val h]; exact h2)
      · cases q : has p.n (val p.n (s.filter fun j => decide (j ≠ k))) k with
        | false => rfl
        | true =>
          have := (has_val hf k hkn).mp q
          simp [List.mem_filter] at this
      · have hq := ok.lt _ ha
        have hne := ok.ne _ ha
        have := h1 _ ha ((has_val h k hkn).mpr hk)
        rw [has_val hf a hq.1, List.mem_filter, decide_eq_true_eq]
        exact ⟨(has_val h a hq.1).mp this, hne⟩
theorem filter_len_lt {s : List Nat} {k : Nat} (hn : s.Nodup) (hk : k ∈ s) : (s.filter fun j => decide (j ≠ k)).length + 1 = s.length := by
  induction s with
  | nil => cases hk
  | cons a s ih =>
    have ⟨h1, h2⟩ := List.nodup_cons.mp hn
    rw [List.filter_cons]
    by_cases e : a = k
    · subst e
      have : s.filter (fun j => decide (j ≠ a)) = s := List.filter_eq_self.mpr fun j hj => by
        have : j ≠ a := fun q => h1 (by rw [← q]; exact hj)
        simpa using this
      simp only [ne_eq, not_true_eq_false, decide_false, Bool.false_eq_true, if_false, List.length_cons]
      simp only [ne_eq] at this
      rw [this]
    · have hk' : k ∈ s := by
        rcases List.mem_cons.mp hk with q | q
        · exact absurd q.symm e
        · exact q
      simp only [ne_eq, e, not_false_eq_true, decide_true, if_true, List.length_cons]
      have := ih h2 hk'
      simp only [ne_eq] at this
      rw [this]
open Classical in
/-- behind the lists ahead of s, the law's list is those of them that are reached -/
theorem turn_due (ok : p.Ok) {pre : List (List Nat)} {s : List Nat} (h : Asc p.n 0 s) (hp : ∀ r ∈ pre, Asc p.n 0 r) (hl : ∀ r, Asc p.n 0 r → r.length < s.length → r ∈ pre) :
    turnL p top (dueL p top pre) s = dueL p top (pre ++ [s]) := by
  have hin : ∀ k ∈ s, (s.filter (fun j => decide (j ≠ k)) ∈ dueL p top pre ↔ Reach p top (val p.n (s.filter fun j => decide (j ≠ k)))) := by
    intro k hk
    unfold dueL
    rw [List.mem_filter, decide_eq_true_eq]
    constructor
    · exact fun q => q.2
    · intro q
      have := filter_len_lt h.nodup hk
      exact ⟨hl _ (asc_filter _ h) (by omega), q⟩
  have hfit : fitB p top (dueL p top pre) s = true ↔ Reach p top (val p.n s) := by
    rw [reach_list ok h, ← strictB_iff ok h]
    unfold fitB
    rw [Bool.and_eq_true, Bool.and_eq_true, Bool.or_eq_true, decide_eq_true_eq, decide_eq_true_eq, List.any_eq_true, and_assoc]
    refine and_congr_right fun _ => and_congr_right fun _ => or_congr_right ?_
    constructor
    · rintro ⟨k, hk, hb⟩
      exact ⟨k, hk, (hin k hk).mp (of_decide_eq_true hb)⟩
    · rintro ⟨k, hk, hb⟩
      exact ⟨k, hk, decide_eq_true ((hin k hk).mpr hb)⟩
  unfold turnL
  by_cases hr : Reach p top (val p.n s)
  · rw [if_pos (hfit.mpr hr)]
    unfold dueL
    rw [List.filter_append]
    simp [hr]
  · rw [if_neg (fun q => hr (hfit.mp q))]
    unfold dueL
    rw [List.filter_append]
    simp [hr]
end NS
set_option Elab.async false
set_option linter.all false
set_option maxRecDepth 100000
set_option maxHeartbeats 4000000
/-! Grounds: the problem of an exchange, facts that stay while a ground is made. -/
namespace NS
open PySem PySem.Spec PyProof.Rows L2 He
/-! ### the problem -/
noncomputable def pbOf (cols : List Str) (one two : Rws) : Pb where
  n := (stepsL cols one two).length
  prs := (sentsL cols one two).map fun q => (q.1, q.2.1)
  gain := fun k => match (stepsL cols one two)[k]? with
    | some s => gainW s.1
    | none => 0
  begun := one.length
def aheadF (n k : Nat) (m : Nat) (q : Nat × Nat) : Nat := if q.2 = k then m ||| bit n q.1 else m
def aheadM (n : Nat) (prs : List (Nat × Nat)) (k : Nat) : Nat := prs.foldl (aheadF n k) 0
theorem aheadM_snoc (n : Nat) (prs : List (Nat × Nat)) (q : Nat × Nat) (k : Nat) : aheadM n (prs ++ [q]) k = aheadF n k (aheadM n prs k) q := by
  unfold aheadM
  rw [List.foldl_append]
  rfl
theorem aheadM_lt {n : Nat} (k : Nat) : ∀ (prs : List (Nat × Nat)) (m : Nat), m < 2 ^ n → (∀ q ∈ prs, q.1 < n) → prs.foldl (aheadF n k) m < 2 ^ n
  | [], m, h, _ => h
  | q :: r, m, h, hq => by
    rw [List.foldl_cons]
    refine aheadM_lt k r _ ?_ fun x hx => hq x (List.mem_cons_of_mem _ hx)
    unfold aheadF
    split
    · exact or_lt h (hq q (List.mem_cons_self ..))
    · exact h
theorem has_aheadF {n k a : Nat} (ha : a < n) : ∀ (prs : List (Nat × Nat)) (m : Nat), (∀ q ∈ prs, q.1 < n) → (has n (prs.foldl (aheadF n k) m) a = true ↔ has n m a = true ∨ (a, k) ∈ prs)
  | [], m, _ => by simp
  | q :: r, m, hq => by
    rw [List.foldl_cons, has_aheadF ha r _ fun x hx => hq x (List.mem_cons_of_mem _ hx)]
    unfold aheadF
    split
    · rename_i e
      rw [has_or (hq q (List.mem_cons_self ..)) ha, Bool.or_eq_true, decide_eq_true_eq, List.mem_cons]
      constructor
      · rintro ((h | h) | h)
        · exact .inl h
        · exact .inr (.inl (by rw [h, ← e]))
        · exact .inr (.inr h)
      · rintro (h | h | h)
        · exact .inl (.inl h)
        · exact .inl (.inr (by rw [← h]))
        · exact .inr h
    · rename_i e
      rw [List.mem_cons]
      constructor
      · rintro (h | h)
        · exact .inl h
        · exact .inr (.inr h)
      · rintro (h | h | h)
        · exact .inl h
        · exact absurd (by rw [← h]) e
        · exact .inr h
theorem has_aheadM {n : Nat} {prs : List (Nat × Nat)} (h : ∀ q ∈ prs, q.1 < n) {a k : Nat} (ha : a < n) : has n (aheadM n prs k) a = true ↔ (a, k) ∈ prs := by
  unfold aheadM
  rw [has_aheadF ha prs 0 h, has_zero]
  simp
/-- the program's test for a free step -/
theorem free_and {p : Pb} (ok : p.Ok) {m k : Nat} : (m &&& aheadM p.n p.prs k = aheadM p.n p.prs k) ↔ p.free m k = true := by
  have hlt : aheadM p.n p.prs k < 2 ^ p.n := aheadM_lt k p.prs 0 (Nat.two_pow_pos _) fun q hq => (ok.lt q hq).1
  rw [and_eq hlt, free_iff]
  constructor
  · intro h a ha
    have hl := (ok.lt _ ha).1
    exact h a hl ((has_aheadM (fun q hq => (ok.lt q hq).1) hl).mpr ha)
  · intro h a hl ha
    exact h a ((has_aheadM (fun q hq => (ok.lt q hq).1) hl).mp ha)
/-! ### what stays -/
def grFields : List Str := ["many", "begun", "gains", "bits", "ahead"]
def GB (H : Hp) (g : Addr) : Prop := ∃ C dx fs, H g = some (.ins C dx fs) ∧ ∀ p ∈ fs, p.1 ∈ grFields
theorem lookup_mem' {f : Str} {v : V} : ∀ {fs : List (Str × V)}, fs.lookup f = some v → f ∈ fs.map Prod.fst
  | (g, x) :: r, h => by
    rw [List.lookup_cons] at h
    by_cases e : f = g
    · rw [e]; exact List.mem_cons_self ..
    · have : (f == g) = false := by simpa using e
      rw [this] at h
      exact List.mem_cons_of_mem _ (lookup_mem' h)
theorem gk_ins {g t : Addr} {H H' : Hp} {C dx : Addr} {fs : List (Str × V)} {f : Str} (b : GB H g) (e : But g H H') (h : H t = some (.ins C dx fs)) (hf : f ∈ fs.map Prod.fst) (hn : f ∉ grFields) : H' t = some (.ins C dx fs) := by
  obtain ⟨C', dx', fs', hx, hall⟩ := b
  refine e t _ (fun z => ?_) h
  rw [z, hx] at h
  cases h
  obtain ⟨p, hp, rfl⟩ := List.mem_map.mp hf
  exact hn (hall p hp)
theorem gk_xf {K : PySem.W.Frag} {g x : Addr} {H H' : Hp} {f : Str} {v : V} (b : GB H g) (e : But g H H') (h : XF K H x f v) (hn : f ∉ grFields) : XF K H' x f v := by
  obtain ⟨dx, fs, h1, h2, h3⟩ := h
  exact ⟨dx, fs, gk_ins b e h1 (lookup_mem' h2) hn, h2, h3⟩
theorem gk_sqt {K : PySem.W.Frag} {g a : Addr} {xs : List V} {H H' : Hp} (b : GB H g) (e : But g H H') (h : SqT K H a xs) : SqT K H' a xs := let ⟨C, dx, fs, hx, _⟩ := b; e.sqt hx h
theorem gk_table {K : PySem.W.Frag} {g t : Addr} {cols : List Str} {rows : Rws} {H H' : Hp} (b : GB H g) (e : But g H H') (q : TableAt K H t cols rows) : TableAt K H' t cols rows := by
  obtain ⟨dx, ct, rd, h1, h2, h3⟩ := q.ex
  have h1' := gk_ins (f := "row_of") b e h1 (by simp) (by decide +kernel)
  obtain ⟨C', dx', fs', hx, _⟩ := b
  exact ⟨dx, ct, rd, h1', e.sqt hx h2, e.rows hx h3⟩
theorem gk_ans {g d : Addr} {rows : Rws} {H H' : Hp} (b : GB H g) (e : But g H H') (h : AnsAt H d rows) : AnsAt H' d rows := by
  obtain ⟨C, dx, fs, hx, _⟩ := b
  obtain ⟨k, h1, h2⟩ := h
  exact ⟨k, e _ _ (fun z => by rw [z, hx] at h1; cases h1) h1, h2⟩
theorem gk_steps {K : PySem.W.Frag} {g : Addr} {as : List Addr} {sts : List Stp} {H H' : Hp} (b : GB H g) (e : But g H H') (q : StepsAt K H as sts) : StepsAt K H' as sts := by
  refine ⟨q.len, fun i a s h1 h2 => ?_⟩
  obtain ⟨C, dx, ct, hh, h1, h2, h3, h4, h5, h6⟩ := (q.at_ i a s h1 h2).ex
  have h1' := gk_ins (f := "place") b e h1 (by simp) (by decide +kernel)
  exact ⟨C, dx, ct, hh, h1', h2, h3, h4, h5, gk_sqt b e h6⟩
theorem gk_ex {K : PySem.W.Frag} {g x : Addr} {cols : List Str} {one two : Rws} {H H' : Hp} (b : GB H g) (e : But g H H') (h : ExAt K H x cols one two) : ExAt K H' x cols one two := by
  obtain ⟨⟨c, a1, a2⟩, ⟨hh, t1, t2, b1, b2, b3, b4⟩, ⟨aa, d1, d2, c1, c2, c3, c4⟩, ⟨ss, s1, s2⟩, ⟨dd, v1, v2⟩, ⟨st, as, w1, w2, w3⟩, ⟨nn, kvs, n1, n2, n3⟩, ⟨sn, vs, z1, z2, z3⟩⟩ := h
  refine ⟨⟨c, gk_xf b e a1 (by decide +kernel), gk_sqt b e a2⟩, ⟨hh, t1, t2, gk_xf b e b1 (by decide +kernel), gk_sqt b e b2, gk_table b e b3, gk_table b e b4⟩, ⟨aa, d1, d2, gk_xf b e c1 (by decide +kernel), gk_sqt b e c2, gk_ans b e c3, gk_ans b e c4⟩,
    ⟨ss, gk_xf b e s1 (by decide +kernel), gk_sqt b e s2⟩, ⟨dd, gk_xf b e v1 (by decide +kernel), gk_sqt b e v2⟩, ⟨st, as, gk_xf b e w1 (by decide +kernel), gk_sqt b e w2, gk_steps b e w3⟩, ⟨nn, kvs, gk_xf b e n1 (by decide +kernel), ?_, n3⟩, ⟨sn, vs, gk_xf b e z1 (by decide +kernel), gk_sqt b e z2, ?_⟩⟩
  · obtain ⟨C, dx, fs, hx, _⟩ := b
    exact e _ _ (fun z => by rw [z, hx] at n2; cases n2) n2
  · obtain ⟨C, dx, fs, hx, _⟩ := b
    exact Paired.mapP z3 fun v q ⟨t, h1, h2⟩ => ⟨t, h1, e _ _ (fun z => by rw [z, hx] at h2; cases h2) h2⟩
/-- the ground at g -/
structure GrAt (K : PySem.W.Frag) (H : Hp) (g : Addr) (p : Pb) : Prop where
  ex : ∃ dx lg lb la, H g = some (.ins (ga K "Ground") dx [("many", .int (p.n : Nat)), ("begun", .int p.begun), ("gains", .ref lg), ("bits", .ref lb), ("ahead", .ref la)]) ∧ H lg = some (.lst ((List.range p.n).map fun k => V.int (p.gain k))) ∧
    H lb = some (.lst (natsV ((List.range p.n).map (bit p.n)))) ∧ H la = some (.lst (natsV ((List.range p.n).map (aheadM p.n p.prs))))
theorem Same.gr {K : PySem.W.Frag} {H H' : Hp} {g : Addr} {p : Pb} (e : Same H H') (h : GrAt K H g p) : GrAt K H' g p := let ⟨dx, lg, lb, la, h1, h2, h3, h4⟩ := h.ex; ⟨dx, lg, lb, la, e _ _ h1, e _ _ h2, e _ _ h3, e _ _ h4⟩
end NS
set_option Elab.async false
set_option linter.all false
set_option maxRecDepth 100000
set_option maxHeartbeats 4000000
/-! Plain facts of an exchange's problem: its sentences join unlike steps, what rows stand. -/
namespace NS
open PySem PySem.Spec PyProof.Rows L2 He
theorem numX_lt {sts : List Stp} {p : Str} (h : ∃ s ∈ sts, s.2.1 = p) : numX sts p < sts.length := by
  obtain ⟨s, hs, rfl⟩ := h
  unfold numX
  exact List.findIdx_lt_length_of_exists ⟨s, hs, by simp⟩
theorem numX_place {sts : List Stp} {p : Str} (h : ∃ s ∈ sts, s.2.1 = p) : ∃ s, sts[numX sts p]? = some s ∧ s.2.1 = p := by
  have hl := numX_lt h
  refine ⟨sts[numX sts p], List.getElem?_eq_getElem hl, ?_⟩
  unfold numX at hl ⊢
  exact of_decide_eq_true (List.findIdx_getElem (w := hl))
theorem numX_inj {sts : List Stp} {p q : Str} (hp : ∃ s ∈ sts, s.2.1 = p) (hq : ∃ s ∈ sts, s.2.1 = q) (e : numX sts p = numX sts q) : p = q := by
  obtain ⟨s, h1, h2⟩ := numX_place hp
  obtain ⟨t, h3, h4⟩ := numX_place hq
  rw [e, h3] at h1
  cases h1
  rw [← h2, h4]
theorem abv_lt {one two : Rws} {c : Str} : ∀ {k : Nat} {ns m : List (List Nat)}, abv one two c k ns = some m → k ≤ ns.length → m.length < ns.length
  | 0, _, _, h, _ => by cases h
  | k + 1, ns, m, h, hk => by
    unfold abv at h
    split at h
    · cases h
      rw [List.length_dropLast]
      omega
    · have := abv_lt h (by rw [List.length_dropLast]; omega)
      rw [List.length_dropLast] at this
      omega
theorem sent_cases {one two : Rws} {sts : List Stp} {ns : List (List Nat)} {c : Str} {q : Snt} (h : sentX one two sts ns c = some q) :
    ∃ m up low, abv one two c ns.length ns = some m ∧ kindX one two (txt ns) c = some low ∧ low ≠ "kept" ∧ kindX one two (txt m) c = some up ∧ up ≠ "kept" ∧
      (low = "old" ∧ q = (numX sts (txt m), numX sts (txt ns), c, up ++ "/" ++ low) ∨ low = "new" ∧ q = (numX sts (txt ns), numX sts (txt m), c, up ++ "/" ++ low)) := by
  unfold sentX at h
  cases hk : kindX one two (txt ns) c with
  | none => rw [hk] at h; cases h
  | some low =>
    cases ha : abv one two c ns.length ns with
    | none => rw [hk, ha] at h; cases h
    | some m =>
      rw [hk, ha] at h
      dsimp only at h
      split at h
      · rename_i hl
        cases hm : kindX one two (txt m) c with
        | none => rw [hm] at h; cases h
        | some up =>
          rw [hm] at h
          dsimp only at h
          split at h
          · cases h
          · rename_i hu
            have hlk : low ≠ "kept" := by
              rcases hl with rfl | rfl
              · decide +kernel
              · decide +kernel
            refine ⟨m, up, low, rfl, rfl, hlk, hm, hu, ?_⟩
            have h := Option.some.inj h
            rcases hl with rfl | rfl
            · rw [if_pos rfl] at h
              exact .inl ⟨rfl, h.symm⟩
            · rw [if_neg (fun e => old_ne_new e.symm)] at h
              exact .inr ⟨rfl, h.symm⟩
      · cases h
theorem mem_sents {cols : List Str} {one two : Rws} {q : Snt} (h : q ∈ sentsL cols one two) : ∃ p ∈ spots one two, ∃ c ∈ cols, sentO one two (stepsL cols one two) p c = some q := by
  unfold sentsL sentsF at h
  obtain ⟨o, ho, e⟩ := List.mem_filterMap.mp h
  obtain ⟨p, hp, h2⟩ := List.mem_flatMap.mp ho
  obtain ⟨c, hc, e2⟩ := List.mem_map.mp h2
  have e : o = some q := e
  exact ⟨p, hp, c, hc, by rw [e2, e]⟩
theorem pb_ok {cols : List Str} {one two : Rws} (hp : ∀ p ∈ spots one two, PlaceS p) : (pbOf cols one two).Ok := by
  have key : ∀ q ∈ sentsL cols one two, q.1 < (stepsL cols one two).length ∧ q.2.1 < (stepsL cols one two).length ∧ q.1 ≠ q.2.1 := by
    intro q hq
    obtain ⟨p, hp1, c, hc, e⟩ := mem_sents hq
    obtain ⟨ns, rfl, hok⟩ := hp p hp1
    unfold sentO at e
    rw [nsOf_txt hok] at e
    obtain ⟨m, up, low, ha, hk, hlk, hm, hu, hq⟩ := sent_cases e
    obtain ⟨s1, a1, b1, _⟩ := in_steps hk hlk hc
    obtain ⟨s2, a2, b2, _⟩ := in_steps hm hu hc
    have i1 : ∃ s ∈ stepsL cols one two, s.2.1 = txt ns := ⟨s1, a1, b1⟩
    have i2 : ∃ s ∈ stepsL cols one two, s.2.1 = txt m := ⟨s2, a2, b2⟩
    have hne : numX (stepsL cols one two) (txt m) ≠ numX (stepsL cols one two) (txt ns) := fun z => by
      have z2 := numX_inj i2 i1 z
      have z3 := pc_inj (abv_ok hok ha).1.ok hok.ok (SX.S_inj z2)
      have := abv_lt ha (Nat.le_refl _)
      rw [z3] at this
      omega
    rcases hq with ⟨_, rfl⟩ | ⟨_, rfl⟩
    · exact ⟨numX_lt i2, numX_lt i1, hne⟩
    · exact ⟨numX_lt i1, numX_lt i2, fun z => hne z.symm⟩
  constructor
  · intro q hq
    obtain ⟨r, hr, rfl⟩ := List.mem_map.mp hq
    exact ⟨(key r hr).1, (key r hr).2.1⟩
  · intro q hq
    obtain ⟨r, hr, rfl⟩ := List.mem_map.mp hq
    exact (key r hr).2.2
theorem no_ring {cols : List Str} {one two : Rws} {f : Nat → Nat} (o : (pbOf cols one two).Ord f) : NoRing (sentsL cols one two) := fun left h => no_left o fun k hk => by
  obtain ⟨a, ha, q, hq, e1, e2⟩ := h k hk
  exact ⟨a, ha, List.mem_map.mpr ⟨q, hq, by rw [e1, e2]⟩⟩
theorem sents_len {cols : List Str} {one two : Rws} (hc : cols.length ≤ 3) (hl : (spots one two).length ≤ 40) : (sentsL cols one two).length ≤ 1000 := by
  have h1 : (sentsL cols one two).length ≤ (sentsF cols one two).length := List.length_filterMap_le ..
  have h2 : (sentsF cols one two).length ≤ (spots one two).length * 3 := flat_len fun q _ => by rw [List.length_map]; exact hc
  omega
/-! ### rows -/
def isOn (past : List Str) (one two : Rws) (p : Str) : Bool := decide (p ∈ (if p ∈ past then two else one).map Prod.fst)
def rowsN (sp past : List Str) (one two : Rws) : Nat := (sp.filter (isOn past one two)).length
theorem filter_but {α : Type} [DecidableEq α] {f g : α → Bool} {q : α} : ∀ {l : List α}, l.Nodup → (∀ x, x ≠ q → f x = g x) → q ∈ l → (l.filter f).length + (g q).toNat = (l.filter g).length + (f q).toNat
  | [], _, _, h => by cases h
  | x :: l, hn, hfg, h => by
    obtain ⟨h1, h2⟩ := List.nodup_cons.mp hn
    by_cases e : x = q
    · subst e
      have e2 : l.filter f = l.filter g := List.filter_congr fun y hy => hfg y fun z => h1 (by rw [← z]; exact hy)
      rw [List.filter_cons, List.filter_cons, e2]
      cases f x <;> cases g x <;> simp
    · have hq : q ∈ l := by
        rcases List.mem_cons.mp h with z | z
        · exact absurd z.symm e
        · exact z
      have ih := filter_but h2 hfg hq
      rw [List.filter_cons, List.filter_cons, hfg x e]
      cases g x <;> simp <;> omega
theorem row_emp {cols : List Str} {rows : Rws} (h : OkRows cols rows) (p : Str) : rowOf rows p = [] ↔ p ∉ rows.map Prod.fst := by
  constructor
  · intro e hm
    obtain ⟨r, hr, rfl⟩ := List.mem_map.mp hm
    rw [rowOf_mem h.nd hr] at e
    exact (h.row r hr).ne e
  · exact rowOf_not
theorem spots_nd (one two : Rws) : (spots one two).Nodup := List.Pairwise.imp (R := ltS) (S := (· ≠ ·)) (fun {a b} h e => by subst e; exact ltS_irr a h) (pw_usrt _)
theorem mem_spots {one two : Rws} {p : Str} : p ∈ spots one two ↔ p ∈ one.map Prod.fst ∨ p ∈ two.map Prod.fst := by
  unfold spots
  rw [mem_usrt, List.mem_append]
theorem sub_filter {l m : List Str} (hl : l.Nodup) (hm : m.Nodup) (h : ∀ x ∈ m, x ∈ l) : (l.filter fun x => decide (x ∈ m)).length = m.length := by
  refine Nat.le_antisymm ?_ ?_
  · exact len_sub (hl.filter _) fun x hx => of_decide_eq_true (List.mem_filter.mp hx).2
  · exact len_sub hm fun x hx => List.mem_filter.mpr ⟨h x hx, decide_eq_true hx⟩
theorem rows_none {cols : List Str} {one two : Rws} (h : OkRows cols one) : rowsN (spots one two) [] one two = one.length := by
  have : isOn [] one two = fun x => decide (x ∈ one.map Prod.fst) := rfl
  unfold rowsN
  rw [this, sub_filter (spots_nd one two) h.nd (fun x hx => mem_spots.mpr (.inl hx)), List.length_map]
theorem step_at {cols : List Str} {one two : Rws} {k : Nat} {s : Stp} (h : (stepsL cols one two)[k]? = some s) : s.2.1 ∈ spots one two ∧ s.1 = wordOf (rowOf one s.2.1) (rowOf two s.2.1) ∧ chg cols (rowOf one s.2.1) (rowOf two s.2.1) ≠ [] := by
  obtain ⟨p, hp, e⟩ := List.mem_filterMap.mp (List.mem_of_getElem? h)
  unfold stepOf stepsAt at e
  split at e
  · cases e
  · rename_i hn
    cases e
    exact ⟨hp, rfl, hn⟩
theorem put_ne_take : ¬ ("take" : Str) = "put" := by decide +kernel
theorem edit_ne : ¬ ("edit" : Str) = "put" ∧ ¬ ("edit" : Str) = "take" := by decide +kernel
/-- the places of some steps -/
def placesOf (sts : List Stp) (done : List Nat) : List Str := done.map fun k => ((sts[k]?).map fun s => s.2.1).getD Str.empty
theorem rows_done {cols : List Str} {one two : Rws} (h1 : OkRows cols one) (h2 : OkRows cols two) : ∀ {done : List Nat} {i : Nat}, Asc (stepsL cols one two).length i done →
    ((rowsN (spots one two) (placesOf (stepsL cols one two) done) one two : Nat) : Int) = (pbOf cols one two).rowsL done
  | [], _, _ => by
    show ((rowsN (spots one two) [] one two : Nat) : Int) = _
    rw [rows_none h1]
    unfold Pb.rowsL
    simp [pbOf]
  | k :: done, i, ⟨a1, a2, a3⟩ => by
    have ih := rows_done h1 h2 a3
    obtain ⟨s, hs⟩ : ∃ s, (stepsL cols one two)[k]? = some s := ⟨_, List.getElem?_eq_getElem a2⟩
    obtain ⟨b1, b2, b3⟩ := step_at hs
    have hnd := steps_nd cols one two
    have hq : s.2.1 ∉ placesOf (stepsL cols one two) done := fun z => by
      obtain ⟨j, hj, e⟩ := List.mem_map.mp z
      have hjl := Asc.lt a3 j hj
      obtain ⟨t, ht⟩ : ∃ t, (stepsL cols one two)[j]? = some t := ⟨_, List.getElem?_eq_getElem hjl.2⟩
      rw [ht] at e
      have e : t.2.1 = s.2.1 := e
      have c1 : ((stepsL cols one two).map fun s => s.2.1)[k]? = some s.2.1 := by rw [List.getElem?_map, hs]; rfl
      have c2 : ((stepsL cols one two).map fun s => s.2.1)[j]? = some s.2.1 := by rw [List.getElem?_map, ht, ← e]; rfl
      have := (List.getElem?_inj (List.getElem?_eq_some_iff.mp c1).1 hnd).mp (c1.trans c2.symm)
      omega
    have hpl : placesOf (stepsL cols one two) (k :: done) = s.2.1 :: placesOf (stepsL cols one two) done := by
      show ((((stepsL cols one two)[k]?).map fun s => s.2.1).getD Str.empty) :: _ = _
      rw [hs]
      rfl
    have hb := filter_but (f := isOn (s.2.1 :: placesOf (stepsL cols one two) done) one two) (g := isOn (placesOf (stepsL cols one two) done) one two) (q := s.2.1) (spots_nd one two) (fun x hx => by
      unfold isOn
      simp only [List.mem_cons, hx, false_or]) b1
    have g1 : isOn (s.2.1 :: placesOf (stepsL cols one two) done) one two s.2.1 = decide (s.2.1 ∈ two.map Prod.fst) := by
      unfold isOn
      rw [if_pos (List.mem_cons_self ..)]
    have g2 : isOn (placesOf (stepsL cols one two) done) one two s.2.1 = decide (s.2.1 ∈ one.map Prod.fst) := by
      unfold isOn
      rw [if_neg hq]
    rw [g1, g2] at hb
    have hg : (pbOf cols one two).gain k = gainW s.1 := by
      show (match (stepsL cols one two)[k]? with
        | some s => gainW s.1
        | none => 0) = _
      rw [hs]
    have hr : (pbOf cols one two).rowsL (k :: done) = (pbOf cols one two).rowsL done + gainW s.1 := by
      unfold Pb.rowsL
      rw [List.map_cons, List.sum_cons, hg]
      omega
    rw [hpl, hr, ← ih]
    unfold rowsN at ih ⊢
    have e1 := row_emp h1 s.2.1
    have e2 := row_emp h2 s.2.1
    have hw : gainW s.1 = ((decide (s.2.1 ∈ two.map Prod.fst)).toNat : Int) - ((decide (s.2.1 ∈ one.map Prod.fst)).toNat : Int) := by
      rw [b2]
      unfold wordOf gainW
      by_cases m1 : s.2.1 ∈ one.map Prod.fst
      · have n1 : ¬ rowOf one s.2.1 = [] := fun z => (e1.mp z) m1
        by_cases m2 : s.2.1 ∈ two.map Prod.fst
        · have n2 : ¬ rowOf two s.2.1 = [] := fun z => (e2.mp z) m2
          rw [if_neg n1, if_neg n2, if_neg edit_ne.1, if_neg edit_ne.2, decide_eq_true m1, decide_eq_true m2]
          rfl
        · rw [if_neg n1, if_pos (e2.mpr m2), if_neg put_ne_take, if_pos rfl, decide_eq_true m1, decide_eq_false m2]
          rfl
      · by_cases m2 : s.2.1 ∈ two.map Prod.fst
        · rw [if_pos (e1.mpr m1), if_pos rfl, decide_eq_false m1, decide_eq_true m2]
          rfl
        · exact absurd (by rw [e1.mpr m1, e2.mpr m2]; exact chg_nil) b3
    rw [hw]
    omega
end NS
set_option Elab.async false
set_option linter.all false
set_option maxRecDepth 100000
set_option maxHeartbeats 4000000
/-! The law's sentences and pairs. -/
namespace NS
open PySem PySem.Spec PyProof.Rows L2 He
local macro_rules | `(tactic| walk_at "nf") => `(tactic| dsimp only [L2.tNext, L2.tSeq, L2.tDrop, L2.tRet, L2.tRetN, L2.tIfS, L2.tAsg, L2.gName, L2.gCons, L2.gNil, L2.gTup, L2.tOp, L2.tUn, L2.tTest, L2.tChain, L2.tB, L2.tAnd, L2.tOr, L2.tNot, L2.tAndV, L2.tOrV, L2.tNotV, L2.tIf, L2.tCB, L2.tNil, L2.tCons, L2.tTup, L2.tLst, L2.tFld, L2.sFld, L2.tCall, L2.tMeth, L2.tMake, L2.tBM, L2.tBM0, L2.tM1, L2.tM0, L2.tSl, L2.tPart, L2.tNoPart, L2.tPar, L2.tVar, L2.tC, L2.cxOf, L2.tYes, C8.tCut])
def inO (o : Option Str) (l : List Str) : Bool := match o with
  | none => false
  | some y => decide (y ∈ l)
theorem in_opt (o : Option Str) : ∀ l : List Str, inV (optV o) (l.map V.str) = inO o l := by
  cases o with
  | some y => exact fun l => inV_str
  | none =>
    intro l
    induction l with
    | nil => rfl
    | cons x r ih => exact ih
theorem flat_opt (o : Option Str) : flatV (optV o) = true := by cases o <;> rfl
theorem kOf_four {a b : Option Str} {k : Str} (h : kOf a b = some k) : k = "old" ∨ k = "new" ∨ k = "turned" ∨ k = "kept" := by
  cases a with
  | none =>
    cases b with
    | none => cases h
    | some y => cases h; exact .inr (.inl rfl)
  | some x =>
    cases b with
    | none => cases h; exact .inl rfl
    | some y =>
      have h : (if x = y then some ("kept" : Str) else some ("turned" : Str)) = some k := h
      by_cases e : x = y
      · rw [if_pos e] at h; cases h; exact .inr (.inr (.inr rfl))
      · rw [if_neg e] at h; cases h; exact .inr (.inr (.inl rfl))
def kUp : List Str := ["old", "new", "turned"]
def kLow : List Str := ["old", "new"]
def upK (one two : Rws) (c : Str) (o : Option (List (List Nat))) : Option Str := match o with
  | none => none
  | some m => kindX one two (txt m) c
theorem sent_no {one two : Rws} {sts : List Stp} {ns : List (List Nat)} {c : Str} (hok : OkP ns) (h : ¬ (inO (upK one two c (abv one two c ns.length ns)) kUp = true ∧ inO (kindX one two (txt ns) c) kLow = true)) : sentX one two sts ns c = none := by
  by_cases hl : inO (kindX one two (txt ns) c) kLow = true
  · have hu : ¬ inO (upK one two c (abv one two c ns.length ns)) kUp = true := fun z => h ⟨z, hl⟩
    cases ha : abv one two c ns.length ns with
    | none => exact sentX_top ha
    | some m =>
      obtain ⟨hm, hms⟩ := abv_ok hok ha
      obtain ⟨up, hup⟩ := Option.isSome_iff_exists.mp hms
      rw [ha] at hu
      have hu : ¬ inO (kindX one two (txt m) c) kUp = true := hu
      rw [hup] at hu
      have hu : ¬ decide (up ∈ kUp) = true := hu
      rw [decide_eq_true_eq] at hu
      rcases kOf_four hup with rfl | rfl | rfl | rfl
      · exact absurd (by unfold kUp; simp) hu
      · exact absurd (by unfold kUp; simp) hu
      · exact absurd (by unfold kUp; simp) hu
      · exact sentX_kept ha hup
  · refine sentX_not fun z => hl ?_
    rcases z with z | z
    · rw [z]
      show decide (("old" : Str) ∈ kLow) = true
      exact decide_eq_true (by unfold kLow; simp)
    · rw [z]
      show decide (("new" : Str) ∈ kLow) = true
      exact decide_eq_true (by unfold kLow; simp)
theorem sent_yes {one two : Rws} {ns : List (List Nat)} {c : Str} (h1 : inO (upK one two c (abv one two c ns.length ns)) kUp = true) (h2 : inO (kindX one two (txt ns) c) kLow = true) :
    ∃ m up low, abv one two c ns.length ns = some m ∧ kindX one two (txt m) c = some up ∧ kindX one two (txt ns) c = some low ∧ up ≠ "kept" ∧ (low = "old" ∨ low = "new") := by
  cases ha : abv one two c ns.length ns with
  | none => rw [ha] at h1; cases h1
  | some m =>
    rw [ha] at h1
    have h1 : inO (kindX one two (txt m) c) kUp = true := h1
    cases hu : kindX one two (txt m) c with
    | none => rw [hu] at h1; cases h1
    | some up =>
      rw [hu] at h1
      have h1 : up ∈ kUp := of_decide_eq_true h1
      cases hl : kindX one two (txt ns) c with
      | none => rw [hl] at h2; cases h2
      | some low =>
        rw [hl] at h2
        have h2 : low ∈ kLow := of_decide_eq_true h2
        refine ⟨m, up, low, rfl, hu, rfl, ?_, ?_⟩
        · intro z
          rw [z] at h1
          revert h1
          unfold kUp
          decide +kernel
        · unfold kLow at h2
          simpa using h2
/-- the sentences up to the place i and the column j -/
noncomputable def sentsTo (cols : List Str) (one two : Rws) (i j : Nat) (p : Str) : List Snt := ((((spots one two).take i).flatMap fun p => cols.map (sentO one two (stepsL cols one two) p)) ++ (cols.take j).map (sentO one two (stepsL cols one two) p)).filterMap id
theorem sentsTo_col {cols : List Str} {one two : Rws} {i j : Nat} {p c : Str} (hc : cols[j]? = some c) : sentsTo cols one two i (j + 1) p = sentsTo cols one two i j p ++ (sentO one two (stepsL cols one two) p c).toList := by
  have e : List.filterMap id ((some c).toList.map (sentO one two (stepsL cols one two) p)) = (sentO one two (stepsL cols one two) p c).toList := by
    show List.filterMap id [sentO one two (stepsL cols one two) p c] = _
    cases sentO one two (stepsL cols one two) p c <;> rfl
  unfold sentsTo
  rw [List.take_succ, hc, List.map_append, ← List.append_assoc, List.filterMap_append, e]
theorem sentsTo_place {cols : List Str} {one two : Rws} {i : Nat} {p p' : Str} (hp : (spots one two)[i]? = some p) : sentsTo cols one two (i + 1) 0 p' = sentsTo cols one two i cols.length p := by
  unfold sentsTo
  rw [List.take_zero, List.take_length, List.map_nil, List.append_nil, List.take_succ, hp, List.flatMap_append]
  simp
theorem sentsTo_all {cols : List Str} {one two : Rws} {p : Str} : sentsTo cols one two (spots one two).length 0 p = sentsL cols one two := by
  unfold sentsTo sentsL sentsF
  rw [List.take_zero, List.take_length, List.map_nil, List.append_nil]
theorem sentsTo_len {cols : List Str} {one two : Rws} {i j : Nat} {p : Str} (hc : cols.length ≤ 3) : (sentsTo cols one two i j p).length ≤ 3 * i + 3 := by
  unfold sentsTo
  refine Nat.le_trans (List.length_filterMap_le ..) ?_
  rw [List.length_append, List.length_map]
  have h1 : (((spots one two).take i).flatMap fun p => cols.map (sentO one two (stepsL cols one two) p)).length ≤ ((spots one two).take i).length * 3 := flat_len fun q _ => by rw [List.length_map]; exact hc
  have h2 : ((spots one two).take i).length ≤ i := by rw [List.length_take]; exact Nat.min_le_left ..
  have h3 : (cols.take j).length ≤ cols.length := by rw [List.length_take]; exact Nat.min_le_right ..
  omega
section
variable {P : Program} {w : World} {K : PySem.W.Frag} {mg : Str → Option Value} {base : Heap}
def sp_law_sentences : Sp := fun vs H Q _ => ∃ s cols one two, vs = [.ref s] ∧ St2 H s cols one two ∧ ∀ H' l vs', Same H H' → H l = none → H' l = some (.lst vs') → Paired (SntAt H') vs' (sentsL cols one two) → Q (.ref l) H'
theorem sc_law_sentences : FnScope ["_law_site_here", "_law_place", "_law_steps_here", "_law_found", "_law_column", "_law_upper", "_law_above_here", "_law_lower", "_law_pair"] ["_law_site_here"] (defScope s_law_sentences) := ⟨rfl, rfl, rfl, by decide +kernel, rfl, by decide +kernel, by decide +kernel⟩
theorem ok_law_sentences (T : Tx K mg) : C8.Cal P w K mg base 3 "_law_sentences" sp_law_sentences [] := by
  refine cal_of T.f_law_sentences T.g_law_sentences sc_law_sentences (fun _ _ _ _ _ _ us hl => match us, hl with | [_], _ => rfl) (fun vs H Q E h => ?_) (fun cdv A outer s H vs Q E hr h => ?_)
  · obtain ⟨s, cols, one, two, rfl, _⟩ := h
    rfl
  · obtain ⟨s, cols, one, two, rfl, hs, k⟩ := h
    have nd := sc_law_sentences.nd
    have hu := hu_of hr
    have h6 := hs.le
    have hc3 := hs.hc.le
    obtain ⟨lc, d1, d2, ld, hS, hlc, _, _, _⟩ := hs.at_
    have hS : H s = some (.dK (siteK lc d1 d2 ld)) := hS
    have gc : ∀ {H' : Hp}, Same H H' → DGet H' s (.str "columns") (some (.ref lc)) := fun e => site_c ▸ DGet.k (k := .inr "columns") (e _ _ hS)
    refine ⟨_, (pss_cons (ps_par (i := 2) (j := 3) rfl nd rfl rfl (by decide) rfl rfl (pa_cons (C8.pe_c (ok_law_steps T) hr (by decide) rfl (pa_cons (pv 0) pa_nil)) (pa_cons (pe_lst pa_nil) pa_nil)) (by rfl))
      (pss_cons (ps_for PassesOwn.never rfl (pi_list (C8.pe_c (ok_law_spots T) hr (by decide) rfl (pa_cons (pv 0) pa_nil))) (pg_name (i := 1) nd rfl (Or.inl rfl))
      (pss_one (ps_for PassesOwn.never rfl (pi_list (pe_dget hu (pv 0) pe_str (fun _ _ => rfl))) (pg_name (i := 4) nd rfl (Or.inl rfl))
      (pss_cons (ps_par (i := 6) (j := 7) rfl nd rfl rfl (by decide) rfl rfl (pa_cons (C8.pe_c (ok_law_above T) hr (by decide) rfl (pa_cons (pv 0) (pa_cons (pv 1) (pa_cons (pv 4) pa_nil)))) (pa_cons (C8.pe_c (ok_law_kind T) hr (by decide) rfl (pa_cons (pv 0) (pa_cons (pv 1) (pa_cons (pv 4) pa_nil)))) pa_nil)) (by rfl))
      (C8.pss_cut (ps_set (i := 5) nd rfl (Or.inl rfl) (pe_ifExp (pt_cmpR op_isN (pv 6) pe_non (nomark _)) pe_non (C8.pe_c (ok_law_kind T) hr (by decide) rfl (pa_cons (pv 0) (pa_cons (pv 6) (pa_cons (pv 4) pa_nil))))))
      (pss_one (ps_if (PW.pt (pw_and (pt_cmpR op_in_seq (pv 5) (pe_tup (pa_cons pe_str (pa_cons pe_str (pa_cons pe_str pa_nil)))) (by rfl)) (pw_and1 (pt_cmpR op_in_seq (pv 7) (pe_tup (pa_cons pe_str (pa_cons pe_str pa_nil))) (by rfl))))) (pss_cons (ps_set (i := 8) nd rfl (Or.inl rfl) (pe_tup (pa_cons (C8.pe_c (ok_law_number T) hr (by decide) rfl (pa_cons (pv 2) (pa_cons (pv 6) (pa_cons (pv 4) pa_nil)))) (pa_cons (C8.pe_c (ok_law_number T) hr (by decide) rfl (pa_cons (pv 2) (pa_cons (pv 1) (pa_cons (pv 4) pa_nil)))) pa_nil))))
      (C8.pss_cut (ps_set (i := 8) nd rfl (Or.inl rfl) (pe_ifExp (pt_cmpR op_eq (pv 7) pe_str (nomark _)) (pv 8) (pe_revT (pv 8))))
      (pss_one (ps_expr (pe_bm PySem.F.plainAttrs_list PySem.F.slot_list_append PySem.F.type_list_append mt_append (pv 3) (pa_cons (pe_op op_catA (pv 8) (pe_tup (pa_cons (pv 4) (pa_cons (pe_op op_add_str (pe_op op_add_str (pv 5) pe_str) (pv 7)) pa_nil)))) pa_nil)))))) pss_nil)))))))
      (pss_one (ps_ret (pv 3))))), ?_⟩
    walk_at "nf"
    refine ⟨_, rfl, s, cols, one, two, rfl, hs, fun H1 LT stv e1 hT0 hT hTp => ⟨Nat.zero_le _, fun F hF => ⟨_, _, rfl, ?_⟩⟩⟩
    have e2 : Same H1 (upd H1 F (.lst [])) := (Same.refl _).new hF
    have h2F : upd H1 F (.lst []) F = some (.lst []) := upd_same
    have hF0 : H F = none := e1.free hF
    generalize upd H1 F (.lst []) = H2 at e2 h2F
    have e02 := e1.trans e2
    refine ⟨_, rfl, s, cols, one, two, rfl, Same.st2 e02 hs, fun H3 L e3 hL0 hL => ⟨L, rfl, ⟨_, SqL.of hL⟩, ?_⟩⟩
    have hLF : L ≠ F := fun z => by rw [z, h2F] at hL0; cases hL0
    have hTF : LT ≠ F := ne_of_none hT hF
    have e13 : Same H1 H3 := e2.trans e3
    have stp : ∀ {H' : Hp}, Same H1 H' → Paired (LSt H') stv (stepsL cols one two) := fun e => paired_imp (fun a b h => Same.lst e h) hTp
    have h40 : (stepsL cols one two).length ≤ 40 := by have := steps_le cols one two; omega
    refine for_it (walk_list (xs := (spots one two).map V.str)) (fun i σ H' => ∃ (o1 o4 o5 o6 o7 o8 : Option V) (vs : List V), σ = [some (.ref s), o1, some (.ref LT), some (.ref F), o4, o5, o6, o7, o8] ∧ Same H1 H' ∧ H' L = some (.lst ((spots one two).map V.str)) ∧ H' F = some (.lst vs) ∧ Paired (SntAt H') vs (sentsTo cols one two i 0 Str.empty))
      ⟨none, none, none, none, none, none, [], rfl, e13, hL, e3 _ _ h2F, by unfold sentsTo; simp; exact .nil⟩ (fun i σ H' _ ⟨_, _, _, _, _, _, _, _, _, h, _⟩ => SqL.of h) ?_ ?_
    · rintro i v σ H4 H5 hi ⟨o1, o4, o5, o6, o7, o8, vs, rfl, e5, h5L, h5F, hvp⟩ ⟨rfl, hv⟩
      obtain ⟨p, hp, rfl⟩ := get_map_str hv
      rw [List.length_map] at hi
      obtain ⟨ns, rfl, hok⟩ := hs.pl p (List.mem_of_getElem? hp)
      have hlc5 := (e1.trans e5) _ _ hlc
      walk_at "nf"
      refine ⟨_, rfl, s, _, rfl, gc (e1.trans e5), lc, rfl, ⟨_, SqL.of hlc5⟩, ?_⟩
      have hlcF : lc ≠ F := ne_of_none hlc hF0
      refine for_it (walk_list (xs := cols.map V.str)) (fun j σ H' => ∃ (o4 o5 o6 o7 o8 : Option V) (vs : List V), σ = [some (.ref s), some (.str (txt ns)), some (.ref LT), some (.ref F), o4, o5, o6, o7, o8] ∧ Same H1 H' ∧ H' L = some (.lst ((spots one two).map V.str)) ∧ H' lc = some (.lst (cols.map V.str)) ∧ H' F = some (.lst vs) ∧ Paired (SntAt H') vs (sentsTo cols one two i j (txt ns)))
        ⟨o4, o5, o6, o7, o8, vs, rfl, e5, h5L, hlc5, h5F, hvp⟩ (fun j σ H' _ ⟨_, _, _, _, _, _, _, _, _, h, _⟩ => SqL.of h) ?_ ?_
      · rintro j v σ H6 H7 hj ⟨q4, q5, q6, q7, q8, vs, rfl, e7, h7L, h7c, h7F, hvp⟩ ⟨rfl, hv⟩
        obtain ⟨c, hc, rfl⟩ := get_map_str hv
        rw [List.length_map] at hj
        have hcm := List.mem_of_getElem? hc
        have e07 := e1.trans e7
        have hso : sentO one two (stepsL cols one two) (txt ns) c = sentX one two (stepsL cols one two) ns c := by
          unfold sentO
          rw [nsOf_txt hok]
        have hvl : vs.length ≤ 100 := by
          have h1 := hvp.length
          have h2 := sentsTo_len (cols := cols) (one := one) (two := two) (i := i) (j := j) (p := txt ns) hc3
          omega
        walk_at "nf"
        refine ⟨_, rfl, _, rfl, _, rfl, s, ns, c, cols, one, two, rfl, hok, Same.st2 e07 hs, fun H8 e8 => ⟨_, rfl, _, rfl, _, rfl, s, txt ns, c, cols, one, two, rfl, Same.st2 (e07.trans e8) hs, fun H9 e9 => ⟨_, _, rfl, ?_⟩⟩⟩
        have e79 := e8.trans e9
        have e09 := e07.trans e79
        refine ⟨fun σ' H' => σ' = [some (.ref s), some (.str (txt ns)), some (.ref LT), some (.ref F), some (.str c), some (optV (upK one two c (abv one two c ns.length ns))), some (oV (abv one two c ns.length ns)), some (optV (kindX one two (txt ns) c)), q8] ∧ Same H9 H', ?_, ?_⟩
        · cases hab : abv one two c ns.length ns with
          | none => exact ⟨_, rfl, rfl, _, rfl, iteT ⟨rfl, Same.refl _⟩⟩
          | some m => exact ⟨_, rfl, rfl, _, rfl, iteF ⟨_, rfl, _, rfl, _, rfl, s, txt m, c, cols, one, two, rfl, Same.st2 e09 hs, fun H' e => ⟨rfl, e⟩⟩⟩
        · rintro σ' HA ⟨rfl, eA⟩
          have e7A := e79.trans eA
          have no : ∀ {H' : Hp} {σ' : L2.St}, Same H7 H' → (∃ o4 o5 o6 o7 o8 : Option V, σ' = [some (.ref s), some (.str (txt ns)), some (.ref LT), some (.ref F), o4, o5, o6, o7, o8]) → sentX one two (stepsL cols one two) ns c = none →
              ∃ (o4 o5 o6 o7 o8 : Option V) (vs : List V), σ' = [some (.ref s), some (.str (txt ns)), some (.ref LT), some (.ref F), o4, o5, o6, o7, o8] ∧ Same H1 H' ∧ H' L = some (.lst ((spots one two).map V.str)) ∧ H' lc = some (.lst (cols.map V.str)) ∧ H' F = some (.lst vs) ∧ Paired (SntAt H') vs (sentsTo cols one two i (j + 1) (txt ns)) := fun e ⟨o4, o5, o6, o7, o8, hσ⟩ hn => by
            refine ⟨o4, o5, o6, o7, o8, vs, hσ, e7.trans e, e _ _ h7L, e _ _ h7c, e _ _ h7F, ?_⟩
            rw [sentsTo_col hc, hso, hn]
            show Paired _ vs (_ ++ [])
            rw [List.append_nil]
            exact paired_imp (fun a b h => Same.snt e h) hvp
          refine ⟨_, rfl, (by show 3 ≤ sizeLine; decide), fun t ht => ?_⟩
          have eB : Same HA (upd HA t (.tup [.str "old", .str "new", .str "turned"])) := (Same.refl _).new ht
          refine ⟨t, _, rfl, .inr (SqT.of upd_same), flat_opt _, rfl, ?_⟩
          generalize upd HA t (.tup [.str "old", .str "new", .str "turned"]) = HB at eB
          have hin : inV (optV (upK one two c (abv one two c ns.length ns))) [.str "old", .str "new", .str "turned"] = inO (upK one two c (abv one two c ns.length ns)) kUp := in_opt _ kUp
          rw [if_neg Bool.false_ne_true, hin]
          refine ⟨_, rfl, ?_⟩
          cases h1 : inO (upK one two c (abv one two c ns.length ns)) kUp with
          | false =>
            refine iteF (iteF (no (e7A.trans eB) ⟨_, _, _, _, _, rfl⟩ (sent_no hok fun z => ?_)))
            rw [h1] at z
            cases z.1
          | true =>
            refine iteT ⟨_, rfl, (by show 2 ≤ sizeLine; decide), fun t2 ht2 => ?_⟩
            have eC : Same HB (upd HB t2 (.tup [.str "old", .str "new"])) := (Same.refl _).new ht2
            refine ⟨t2, _, rfl, .inr (SqT.of upd_same), flat_opt _, rfl, ?_⟩
            generalize upd HB t2 (.tup [.str "old", .str "new"]) = HC at eC
            have hin2 : inV (optV (kindX one two (txt ns) c)) [.str "old", .str "new"] = inO (kindX one two (txt ns) c) kLow := in_opt _ kLow
            rw [if_neg Bool.false_ne_true, hin2]
            refine ⟨_, rfl, ?_⟩
            have e7C := e7A.trans (eB.trans eC)
            cases h2 : inO (kindX one two (txt ns) c) kLow with
            | false =>
              refine iteF (no e7C ⟨_, _, _, _, _, rfl⟩ (sent_no hok fun z => ?_))
              rw [h2] at z
              cases z.2
            | true =>
              obtain ⟨m, up, low, hab, hup, hlow, hu, hlk⟩ := sent_yes h1 h2
              have hupk : upK one two c (abv one two c ns.length ns) = some up := by rw [hab]; exact hup
              have hlk2 : low ≠ "kept" := by
                rcases hlk with rfl | rfl
                · decide +kernel
                · decide +kernel
              rw [hupk, hab, hlow]
              refine iteT ?_
              have e1C := e7.trans e7C
              have lt0 := fun {H' : Hp} (e : Same HC H') => SqL.of (K := K) ((e1C.trans e) _ _ hT)
              refine ⟨_, rfl, _, rfl, _, rfl, LT, txt m, c, stv, stepsL cols one two, rfl, lt0 (Same.refl _), stp e1C, steps_nd cols one two, h40, in_steps hup hu hcm, fun HD eD => ?_⟩
              refine ⟨_, rfl, _, rfl, _, rfl, LT, txt ns, c, stv, stepsL cols one two, rfl, lt0 eD, stp (e1C.trans eD), steps_nd cols one two, h40, in_steps hlow hlk2 hcm, fun HE eE => ⟨(by show 2 ≤ sizeLine; decide), fun tp htp => ?_⟩⟩
              have eP : Same HE (upd HE tp (.tup [.int (numX (stepsL cols one two) (txt m) : Nat), .int (numX (stepsL cols one two) (txt ns) : Nat)])) := (Same.refl _).new htp
              have hP : upd HE tp (.tup [.int (numX (stepsL cols one two) (txt m) : Nat), .int (numX (stepsL cols one two) (txt ns) : Nat)]) tp = some (.tup [.int (numX (stepsL cols one two) (txt m) : Nat), .int (numX (stepsL cols one two) (txt ns) : Nat)]) := upd_same
              generalize upd HE tp (.tup [.int (numX (stepsL cols one two) (txt m) : Nat), .int (numX (stepsL cols one two) (txt ns) : Nat)]) = HP at eP hP
              have e7P := e7C.trans (eD.trans (eE.trans eP))
              refine ⟨fun σ' H' => ∃ (A B : Nat) (t' : Addr), σ' = [some (.ref s), some (.str (txt ns)), some (.ref LT), some (.ref F), some (.str c), some (.str up), some (.str (txt m)), some (.str low), some (.ref t')] ∧ Same HP H' ∧ H' t' = some (.tup [.int (A : Nat), .int (B : Nat)]) ∧ sentX one two (stepsL cols one two) ns c = some (A, B, c, up ++ "/" ++ low), ?_, ?_⟩
              · refine ⟨_, rfl, rfl, _, rfl, ?_⟩
                rcases hlk with rfl | rfl
                · rw [decide_eq_true (show optV (some ("old" : Str)) = V.str "old" from rfl)]
                  exact iteT ⟨_, rfl, _, _, tp, rfl, Same.refl _, hP, sentX_old hab hlow hup hu⟩
                · rw [decide_eq_false (show ¬ optV (some ("new" : Str)) = V.str "old" from fun e => old_ne_new (V.str.inj e).symm)]
                  exact iteF ⟨_, rfl, tp, _, _, rfl, SqT.of hP, fun t' ht' => ⟨_, _, t', rfl, (Same.refl _).new ht', upd_same, sentX_new hab hlow hup hu⟩⟩
              · rintro σ' HQ ⟨A, B, t', rfl, eQ, ht', hsent⟩
                have l1 : low.length ≤ 6 := kOf_len hlow
                have l2 : up.length ≤ 6 := kOf_len hup
                have hl2 : (up ++ ("/" : Str)).length ≤ 7 := by
                  have h1 := Str.length_append up ("/" : Str)
                  have : ("/" : Str).length = 1 := by decide +kernel
                  omega
                have hl1 : ("/" : Str).length = 1 := by decide +kernel
                have e7Q := e7P.trans eQ
                have hQF := e7Q _ _ h7F
                refine ⟨_, rfl, .inl ⟨rfl, _, SqL.of hQF⟩, _, rfl, _, rfl, _, rfl, _, _, rfl, rfl, le_size (by omega), _, rfl, _, _, rfl, rfl, le_size (by omega), (by show 2 ≤ sizeLine; decide), fun t4 ht4 => ?_⟩
                have eR : Same HQ (upd HQ t4 (.tup [.str c, .str (up ++ "/" ++ low)])) := (Same.refl _).new ht4
                have hR : upd HQ t4 (.tup [.str c, .str (up ++ "/" ++ low)]) t4 = some (.tup [.str c, .str (up ++ "/" ++ low)]) := upd_same
                show rCatA K (.ref t') (.ref t4) (upd HQ t4 (.tup [.str c, .str (up ++ "/" ++ low)])) _
                generalize upd HQ t4 (.tup [.str c, .str (up ++ "/" ++ low)]) = HR at eR hR
                refine ⟨t', t4, [.int (A : Nat), .int (B : Nat)], [.str c, .str (up ++ "/" ++ low)], rfl, rfl, SqT.of (eR _ _ ht'), SqT.of hR, (by show 4 ≤ sizeLine; decide), fun e => (by cases e), fun _ e => (by cases e), fun _ _ t5 ht5 => ?_⟩
                have eS : Same HR (upd HR t5 (.tup [.int (A : Nat), .int (B : Nat), .str c, .str (up ++ "/" ++ low)])) := (Same.refl _).new ht5
                have hS5 : upd HR t5 (.tup [.int (A : Nat), .int (B : Nat), .str c, .str (up ++ "/" ++ low)]) t5 = some (.tup [.int (A : Nat), .int (B : Nat), .str c, .str (up ++ "/" ++ low)]) := upd_same
                show rAppend (.ref F) [.ref t5] (upd HR t5 (.tup [.int (A : Nat), .int (B : Nat), .str c, .str (up ++ "/" ++ low)])) _
                generalize upd HR t5 (.tup [.int (A : Nat), .int (B : Nat), .str c, .str (up ++ "/" ++ low)]) = HT at eS hS5
                have e7T := e7Q.trans (eR.trans eS)
                have hTF' := e7T _ _ h7F
                refine ⟨F, _, _, rfl, rfl, hTF', lt_size (by omega), _, _, _, _, _, vs ++ [.ref t5], rfl, (e7.trans e7T).mut hF, (upd_ne hLF).trans (e7T _ _ h7L), (upd_ne hlcF).trans (e7T _ _ h7c), upd_same, ?_⟩
                rw [sentsTo_col hc, hso, hsent]
                exact paired_snoc (paired_imp (fun a b h => snt_put hTF' (Same.snt e7T h)) hvp) (snt_put hTF' ⟨t5, rfl, hS5⟩)
      · rintro σ H6 ⟨q4, q5, q6, q7, q8, vs, rfl, e6, h6L, h6c, h6F, hvp⟩
        rw [List.length_map] at hvp
        exact ⟨_, _, _, _, _, _, vs, rfl, e6, h6L, h6F, by rw [sentsTo_place hp]; exact hvp⟩
    · rintro σ H4 ⟨o1, o4, o5, o6, o7, o8, vs, rfl, e4, h4L, h4F, hvp⟩
      rw [List.length_map, sentsTo_all] at hvp
      exact ⟨_, rfl, k _ F vs (e1.trans e4) hF0 h4F hvp⟩
/-- a pair of numbers -/
def PrAt (H : Hp) (v : V) (q : Nat × Nat) : Prop := ∃ t, v = .ref t ∧ H t = some (.tup [.int (q.1 : Nat), .int (q.2 : Nat)])
theorem Same.pr {H H' : Hp} {v : V} {q : Nat × Nat} (e : Same H H') (h : PrAt H v q) : PrAt H' v q := let ⟨t, a, b⟩ := h; ⟨t, a, e _ _ b⟩
theorem pr_put {H : Hp} {D : Addr} {acc : List V} {o : HO} {v : V} {q : Nat × Nat} (hD : H D = some (.lst acc)) (h : PrAt H v q) : PrAt (upd H D o) v q := by
  obtain ⟨t, e, ht⟩ := h
  exact ⟨t, e, (upd_ne (fun z => by rw [z, hD] at ht; cases ht)).trans ht⟩
def sp_law_pairs : Sp := fun vs H Q _ => ∃ s cols one two, vs = [.ref s] ∧ St2 H s cols one two ∧ ∀ H' l vs', Same H H' → H l = none → H' l = some (.lst vs') → Paired (PrAt H') vs' (pbOf cols one two).prs → Q (.ref l) H'
theorem sc_law_pairs : FnScope ["_law_site_here", "_law_one"] ["_law_site_here"] (defScope s_law_pairs) := ⟨rfl, rfl, rfl, by decide +kernel, rfl, by decide +kernel, by decide +kernel⟩
theorem ok_law_pairs (T : Tx K mg) : C8.Cal P w K mg base 4 "_law_pairs" sp_law_pairs [] := by
  refine cal_of T.f_law_pairs T.g_law_pairs sc_law_pairs (fun _ _ _ _ _ _ us hl => match us, hl with | [_], _ => rfl) (fun vs H Q E h => ?_) (fun cdv A outer s H vs Q E hr h => ?_)
  · obtain ⟨s, cols, one, two, rfl, _⟩ := h
    rfl
  · obtain ⟨s, cols, one, two, rfl, hs, k⟩ := h
    have nd := sc_law_pairs.nd
    have h6 := hs.le
    refine ⟨_, (pss_one (ps_ret (pe_lc (own := [("_law_one", 1)]) rfl nd (pi_list (C8.pe_c (ok_law_sentences T) hr (by decide) rfl (pa_cons (pv 0) pa_nil))) (blkOk_by (by kernel_rfl)) (fun _ _ _ _ _ => (pg_name (i := 1) nd rfl (Or.inl rfl))) (fun _ _ _ _ _ => pts_nil) (fun _ _ _ _ _ => (pe_tup (pa_cons (pe_ix (show IxR _ (rIxT K) from ix_tup) (pv 1) pe_int (fun _ _ => rfl)) (pa_cons (pe_ix (show IxR _ (rIxT K) from ix_tup) (pv 1) pe_int (fun _ _ => rfl)) pa_nil))))))), ?_⟩
    walk_at "nf"
    have hsl := sents_len (cols := cols) (one := one) (two := two) hs.hc.le (by omega)
    refine ⟨_, rfl, s, cols, one, two, rfl, hs, fun H1 l vs e1 hl0 hl hvp => ⟨l, rfl, ⟨_, SqL.of hl⟩, fun D hD => ?_⟩⟩
    have hvl := hvp.length
    refine lc_go (walk_list (xs := vs)) hD (fun i acc H' => Paired (PrAt H') acc ((pbOf cols one two).prs.take i)) (fun H6 e6 => SqL.of (e6 _ _ hl)) .nil ?_ ?_
    · rintro i v H4 H5 acc hi e hDD hlen hacc ⟨rfl, hv⟩
      obtain ⟨q, hq, t, rfl, ht⟩ := paired_get hvp hv
      walk_at "nf"
      refine ⟨rfl, ?_⟩
      rw [if_pos rfl]
      have ht5 := e _ _ ht
      refine ⟨_, rfl, t, _, 0, _, rfl, rfl, SqT.of ht5, rfl, _, rfl, t, _, 1, _, rfl, rfl, SqT.of ht5, rfl, (by show 2 ≤ sizeLine; decide), fun t2 ht2 => ?_⟩
      have e2 : Same H5 (upd H5 t2 (.tup [.int (q.1 : Nat), .int (q.2.1 : Nat)])) := (Same.refl _).new ht2
      have hD2 := e2 _ _ hDD
      have hpq : (pbOf cols one two).prs[i]? = some (q.1, q.2.1) := by
        show ((sentsL cols one two).map fun q => (q.1, q.2.1))[i]? = _
        rw [List.getElem?_map, hq]
        rfl
      refine lc_put (R := fun i acc H' => Paired (PrAt H') acc ((pbOf cols one two).prs.take i)) hD hD2 (e.trans e2) hlen (by omega) (fun h => paired_imp (fun a b h => pr_put hD2 h) h) ?_
      show Paired _ _ ((pbOf cols one two).prs.take (i + 1))
      rw [List.take_succ, hpq]
      exact paired_snoc (paired_imp (fun a b h => Same.pr e2 h) hacc) ⟨t2, rfl, upd_same⟩
    · rintro H4 acc e hDD hacc
      have hpl : (pbOf cols one two).prs.length = vs.length := by rw [hvl]; exact List.length_map ..
      rw [← hpl, List.take_length] at hacc
      exact k _ D acc (e1.trans e) (e1.free hD) hDD hacc
end
end NS
set_option Elab.async false
set_option linter.all false
set_option maxRecDepth 100000
set_option maxHeartbeats 4000000
/-! A ground made. -/
namespace NS
open PySem PySem.Spec PyProof.Rows L2 He
local macro_rules | `(tactic| walk_at "nf") => `(tactic| dsimp only [L2.tNext, L2.tSeq, L2.tDrop, L2.tRet, L2.tRetN, L2.tIfS, L2.tAsg, L2.gName, L2.gCons, L2.gNil, L2.gTup, L2.tOp, L2.tUn, L2.tTest, L2.tChain, L2.tB, L2.tAnd, L2.tOr, L2.tNot, L2.tAndV, L2.tOrV, L2.tNotV, L2.tIf, L2.tCB, L2.tNil, L2.tCons, L2.tTup, L2.tLst, L2.tFld, L2.sFld, L2.tCall, L2.tMeth, L2.tMake, L2.tBM, L2.tBM0, L2.tM1, L2.tM0, L2.tSl, L2.tPart, L2.tNoPart, L2.tPar, L2.tVar, L2.tC, L2.cxOf, L2.tYes, C8.tCut])
theorem gnf_snoc {fs : List (Str × V)} {f : Str} {v : V} (h : ∀ p ∈ fs, p.1 ∈ grFields) (hf : f ∈ grFields) : ∀ p ∈ fs ++ [(f, v)], p.1 ∈ grFields := fun p hp => by
  rcases List.mem_append.mp hp with z | z
  · exact h p z
  · rw [List.mem_singleton.mp z]; exact hf
theorem gstage {K : PySem.W.Frag} {H H1 H2 : Hp} {g x C dx : Addr} {fs : List (Str × V)} {f : Str} {v : V} {cols : List Str} {one two : Rws} (gb : But g H H1) (u : H1 g = some (.ins C dx fs)) (a : ∀ p ∈ fs, p.1 ∈ grFields) (he : ExAt K H1 x cols one two) (e : Same H1 H2) (hf : f ∈ grFields) (hn : f ∉ fs.map Prod.fst) :
    ∃ H3, upd H2 g (.ins C dx (putF f v fs)) = H3 ∧ But g H H3 ∧ H3 g = some (.ins C dx (fs ++ [(f, v)])) ∧ (∀ p ∈ fs ++ [(f, v)], p.1 ∈ grFields) ∧ ExAt K H3 x cols one two ∧ ∀ b l, H2 b = some (.lst l) → H3 b = some (.lst l) := by
  refine ⟨_, rfl, (gb.trans (Same.but e)).trans But.put, ?_, gnf_snoc a hf, gk_ex ⟨C, dx, fs, e _ _ u, a⟩ But.put (Same.ex e he), fun b l h => ?_⟩
  · rw [upd_same, putF_new hn]
  · exact But.put b _ (fun z => by rw [z, e _ _ u] at h; cases h) h
theorem set_map {n k : Nat} {f f' : Nat → Nat} (hk : k < n) (h : ∀ j, j ≠ k → f' j = f j) : (natsV ((List.range n).map f)).set k (.int (f' k : Nat)) = natsV ((List.range n).map f') := by
  refine List.ext_getElem? fun j => ?_
  rw [List.getElem?_set]
  unfold natsV
  simp only [List.getElem?_map, List.length_map, List.length_range]
  by_cases e : k = j
  · subst e
    rw [if_pos rfl, if_pos hk, List.getElem?_range hk]
    rfl
  · rw [if_neg e]
    by_cases hj : j < n
    · rw [List.getElem?_range hj]
      simp [h j (fun z => e z.symm)]
    · rw [List.getElem?_eq_none (by rw [List.length_range]; omega)]
      rfl
theorem ixN_n {n j : Nat} (hj : j < n) : ixN n (j : Int) = some j := by
  unfold ixN
  rw [if_pos (by omega), if_pos (by omega)]
  simp
theorem rng_get {n k : Nat} {f : Nat → Nat} (hk : k < n) : (natsV ((List.range n).map f))[k]? = some (.int (f k : Nat)) := by
  unfold natsV
  rw [List.getElem?_map, List.getElem?_map, List.getElem?_range hk]
  rfl
section
variable {P : Program} {w : World} {K : PySem.W.Frag} {mg : Str → Option Value} {base : Heap}
def sp_Gr_init (K : PySem.W.Frag) : Sp := fun vs H Q _ => ∃ g x dx cols one two, vs = [.ref g, .ref x] ∧ H g = some (.ins (ga K "Ground") dx []) ∧ ExAt K H x cols one two ∧ OkCols cols ∧ OkRows cols one ∧ (spots one two).length ≤ 40 ∧ (sentsL cols one two).length ≤ 1000 ∧ (pbOf cols one two).Ok ∧
  ∀ H', But g H H' → GrAt K H' g (pbOf cols one two) → Q .non H'
theorem sc_Ground_init : FnScope ["self", "exchange", "ahead", "behind", "column", "word", "step", "k"] ["self", "exchange"] (defScope sGround_init) := ⟨rfl, rfl, rfl, by decide +kernel, rfl, by decide +kernel, by decide +kernel⟩
theorem ok_Ground_init (T : Tx K mg) : C8.Mak P w K mg base 9 "Ground" (ga K "Ground") (sp_Gr_init K) [] := by
  refine mak_of T.mk_Ground T.g_Ground T.f_Ground_init sc_Ground_init (fun _ _ _ _ _ _ us hl => match us, hl with | [_, _], _ => rfl) (fun vs H Q E h => ?_) (fun cdv A outer s H vs Q E hr h => ?_)
  · obtain ⟨g, x, dx, cols, one, two, rfl, _⟩ := h
    rfl
  · obtain ⟨g, x, dx, cols, one, two, rfl, hg, he, hc, h1, hl, hsl, hok, k⟩ := h
    have nd := sc_Ground_init.nd
    refine ⟨_, (pss_cons (ps_fld (pv 0) (pe_callB (call_own_len (ok_Exchange_len T) hr (by decide)) (by rfl) T.z_len (by decide +kernel) (pa_cons (pv 1) pa_nil)) rfl)
      (pss_cons (ps_fld (pv 0) (pe_callB (call_own_len (ok_Table_len T) hr (by decide)) (by rfl) T.z_len (by decide +kernel) (pa_cons (C8.pe_mt0 (ok_Exchange_first_copy T) hr (by decide) (pv 1)) pa_nil)) rfl)
      (pss_cons (ps_fld (pv 0) (pe_lc (own := [("step", 6)]) rfl nd (pi_tup (pe_fld (pv 1) rfl)) (blkOk_by (by kernel_rfl)) (fun _ _ _ _ _ => (pg_name (i := 6) nd rfl (Or.inl rfl))) (fun _ _ _ _ _ => pts_nil) (fun _ _ _ _ _ => (C8.pe_c (ok_gain_of T) hr (by decide) rfl (pa_cons (pv 6) pa_nil)))) rfl)
      (pss_cons (ps_fld (pv 0) (pe_lc (own := [("k", 7)]) rfl nd (pi_range1 rfl T.z_range (pa_cons (pe_fld (pv 0) rfl) pa_nil)) (blkOk_by (by kernel_rfl)) (fun _ _ _ _ _ => (pg_name (i := 7) nd rfl (Or.inl rfl))) (fun _ _ _ _ _ => pts_nil) (fun _ _ _ _ _ => (pe_op op_shl pe_int (pe_op op_sub (pe_op op_sub (show PE _ _ (tFld K (tVar 0) "many") from pe_fld (pv 0) rfl) pe_int) (pv 7))))) rfl)
      (pss_cons (ps_fld (pv 0) (pe_lc (own := [("k", 7)]) rfl nd (pi_range1 rfl T.z_range (pa_cons (pe_fld (pv 0) rfl) pa_nil)) (blkOk_by (by kernel_rfl)) (fun _ _ _ _ _ => (pg_name (i := 7) nd rfl (Or.inl rfl))) (fun _ _ _ _ _ => pts_nil) (fun _ _ _ _ _ => pe_int)) rfl)
      (pss_one (ps_for PassesOwn.never rfl (pi_tup (pe_fld (pv 1) rfl)) (pg_tup (by rfl) (pgs_cons (pg_name (i := 2) nd rfl (Or.inl rfl)) (pgs_cons (pg_name (i := 3) nd rfl (Or.inl rfl)) (pgs_cons (pg_name (i := 4) nd rfl (Or.inl rfl)) (pgs_cons (pg_name (i := 5) nd rfl (Or.inl rfl)) pgs_nil)))))
      (pss_one (ps_asg (pe_op op_or (pe_ix ix_list (pe_fld (pv 0) rfl) (pv 3) (fun _ _ => rfl)) (pe_ix ix_list (pe_fld (pv 0) rfl) (pv 2) (fun _ _ => rfl))) (pg_sub (pe_fld (pv 0) rfl) (pv 3) set_list)))))))))), ?_⟩
    walk_at "nf"
    obtain ⟨dxe, fse, hxe⟩ := (he.col.choose_spec.1).ins
    have hst := steps_le cols one two
    dsimp only [rOwnLen]
    refine ⟨_, rfl, x, dxe, fse, rfl, hxe, x, stepsL cols one two, rfl, he.steps, _, rfl, by omega, _, rfl, g, _, dx, _, rfl, hg, T.cl_Ground, T.n_Ground_many, by decide, ?_⟩
    obtain ⟨H1, ee, g1, u1, A1, he1, _⟩ := gstage (v := .int ((stepsL cols one two).length : Nat)) (f := "many") (fun b o _ e => e : But g H H) hg (fun p hp => by cases hp) he (Same.refl H) (by decide +kernel) (by simp)
    rw [ee]
    -- begun
    obtain ⟨dxe1, fse1, hxe1⟩ := (he1.col.choose_spec.1).ins
    have hfc : fse1.lookup ("first_copy" : Str) = none := by
      obtain ⟨c, ⟨dx', fs', q1, _, q3⟩, _⟩ := he1.col
      rw [q1] at hxe1
      cases hxe1
      exact look_none fun p hp z => absurd (q3 p hp) (by rw [z]; decide +kernel)
    refine ⟨_, rfl, x, dxe1, fse1, rfl, hxe1, hfc, x, cols, one, two, rfl, he1.held, hc, h1, fun H2 u e2 hu0 hu => ?_⟩
    obtain ⟨dxu, _, _, hu1, _⟩ := hu.ex
    have hle := h1.le
    refine ⟨u, dxu, _, rfl, hu1, u, cols, one, rfl, hu, _, rfl, by omega, _, rfl, g, _, dx, _, rfl, e2 _ _ u1, T.cl_Ground, T.n_Ground_begun, (by show 1 < 1000; decide), ?_⟩
    obtain ⟨H3, ee, g3, u3, A3, he3, _⟩ := gstage (v := .int (one.length : Nat)) (f := "begun") g1 u1 A1 he1 e2 (by decide +kernel) (by show ("begun" : Str) ∉ (["many"] : List Str); decide +kernel)
    rw [ee]
    -- gains
    obtain ⟨sc, as, w1, w2, w3⟩ := he3.steps
    have hal : (as.map V.ref).length = (stepsL cols one two).length := by rw [List.length_map, w3.len]
    refine ⟨_, rfl, w1.fld T.cl_Exchange T.n_Exchange_steps ⟨sc, rfl, ⟨_, w2⟩, fun lg hlg => ?_⟩⟩
    refine lc_go (walk_tup (xs := as.map V.ref)) hlg (fun i acc _ => acc = (List.range i).map fun k => V.int ((pbOf cols one two).gain k)) (fun H4 e4 => Same.tup e4 w2) rfl ?_ ?_
    · rintro i v H4 H5 acc hi e4 hDD hlen hacc ⟨rfl, hv⟩
      rw [List.getElem?_map] at hv
      obtain ⟨ai, hai, rfl⟩ := Option.map_eq_some_iff.mp hv
      obtain ⟨si, hsi⟩ : ∃ si, (stepsL cols one two)[i]? = some si := ⟨_, List.getElem?_eq_getElem (by omega)⟩
      have hst2 := Same.step e4 (w3.at_ i ai si hai hsi)
      have hgi : (pbOf cols one two).gain i = gainW si.1 := by
        show (match (stepsL cols one two)[i]? with
          | some s => gainW s.1
          | none => 0) = _
        rw [hsi]
      walk_at "nf"
      refine ⟨rfl, ?_⟩
      rw [if_pos rfl]
      refine ⟨_, rfl, ai, _, _, _, rfl, hst2, lc_put hlg hDD e4 hlen (by omega) id ?_⟩
      rw [hacc, List.range_succ, List.map_append, ← hgi]
      rfl
    rintro H4 acc e4 hDD hacc
    rw [hal] at hacc
    walk_at "nf"
    refine ⟨_, rfl, g, _, dx, _, rfl, e4 _ _ u3, T.cl_Ground, T.n_Ground_gains, (by show 2 < 1000; decide), ?_⟩
    obtain ⟨H5, ee, g5, u5, A5, he5, l5⟩ := gstage (v := .ref lg) (f := "gains") g3 u3 A3 he3 e4 (by decide +kernel) (by show ("gains" : Str) ∉ (["many", "begun"] : List Str); decide +kernel)
    rw [ee]
    have hlg5 := l5 _ _ hDD
    -- bits
    have hn40 : (stepsL cols one two).length ≤ 40 := by omega
    refine ⟨_, rfl, g, _, dx, _, _, rfl, u5, T.cl_Ground, T.n_Ground_many, by rfl, _, rfl, by omega, by omega, fun lb hlb => ?_⟩
    rw [Int.toNat_natCast]
    refine lc_go (walk_range (lo := 0) (n := (stepsL cols one two).length)) hlb (fun i acc _ => acc = natsV ((List.range i).map (bit (stepsL cols one two).length))) (fun H6 e6 => True.intro) rfl ?_ ?_
    · rintro i v H6 H7 acc hi e6 hDD hlen hacc ⟨rfl, rfl⟩
      walk_at "nf"
      refine ⟨rfl, ?_⟩
      rw [if_pos rfl]
      refine ⟨_, rfl, g, _, dx, _, _, rfl, e6 _ _ u5, T.cl_Ground, T.n_Ground_many, by rfl, _, _, rfl, rfl, _, rfl, _, _, rfl, rfl, _, _, rfl, rfl, ⟨by omega, by omega, by decide⟩, ?_⟩
      have hb : (1 : Int) * 2 ^ ((((stepsL cols one two).length : Nat) : Int) - 1 - (0 + (i : Nat))).toNat = ((bit (stepsL cols one two).length i : Nat) : Int) := by
        have e : ((((stepsL cols one two).length : Nat) : Int) - 1 - (0 + (i : Nat))).toNat = (stepsL cols one two).length - 1 - i := by omega
        rw [e, Int.one_mul]
        unfold bit
        exact (Int.natCast_pow 2 _).symm
      dsimp only
      rw [hb]
      refine lc_put hlb hDD e6 hlen (by omega) id ?_
      rw [hacc, natsV_snoc, List.range_succ, List.map_append]
      rfl
    rintro H6 acc e6 hDD6 hacc
    subst hacc
    refine ⟨_, rfl, g, _, dx, _, rfl, e6 _ _ u5, T.cl_Ground, T.n_Ground_bits, (by show 3 < 1000; decide), ?_⟩
    obtain ⟨H7, ee, g7, u7, A7, he7, l7⟩ := gstage (v := .ref lb) (f := "bits") g5 u5 A5 he5 e6 (by decide +kernel) (by show ("bits" : Str) ∉ (["many", "begun", "gains"] : List Str); decide +kernel)
    rw [ee]
    have hlb7 := l7 _ _ hDD6
    have hlg7 := l7 _ _ (e6 _ _ hlg5)
    -- ahead
    refine ⟨_, rfl, g, _, dx, _, _, rfl, u7, T.cl_Ground, T.n_Ground_many, by rfl, _, rfl, by omega, by omega, fun la hla => ?_⟩
    rw [Int.toNat_natCast]
    refine lc_go (walk_range (lo := 0) (n := (stepsL cols one two).length)) hla (fun i acc _ => acc = natsV ((List.range i).map fun _ => 0)) (fun H6 e6 => True.intro) rfl ?_ ?_
    · rintro i v H8 H9 acc hi e8 hDD hlen hacc ⟨rfl, rfl⟩
      walk_at "nf"
      refine ⟨rfl, ?_⟩
      rw [if_pos rfl]
      refine lc_put hla hDD e8 hlen (by omega) id ?_
      rw [hacc, List.range_succ, List.map_append]
      exact natsV_snoc ((List.range i).map fun _ => 0) 0
    rintro H8 acc e8 hDD8 hacc
    subst hacc
    refine ⟨_, rfl, g, _, dx, _, rfl, e8 _ _ u7, T.cl_Ground, T.n_Ground_ahead, (by show 4 < 1000; decide), ?_⟩
    rw [putF_new (by show ("ahead" : Str) ∉ (["many", "begun", "gains", "bits"] : List Str); decide +kernel)]
    generalize hfs : ([] ++ [(("many" : Str), V.int ((stepsL cols one two).length : Nat))] ++ [(("begun" : Str), V.int (one.length : Nat))] ++ [(("gains" : Str), V.ref lg)] ++ [(("bits" : Str), V.ref lb)] ++ [(("ahead" : Str), V.ref la)]) = fs5
    have hgl : la ≠ g := fun z => by rw [z, u7] at hla; cases hla
    have eB : Same (upd H7 g (.ins (ga K "Ground") dx fs5)) (upd H8 g (.ins (ga K "Ground") dx fs5)) := fun b o hb => by
      by_cases z : b = g
      · rw [z, upd_same] at hb ⊢; exact hb
      · rw [upd_ne z] at hb ⊢; exact e8 b o hb
    have heB : ExAt K (upd H7 g (.ins (ga K "Ground") dx fs5)) x cols one two := gk_ex ⟨_, _, _, u7, A7⟩ But.put he7
    have hB1 : upd H7 g (.ins (ga K "Ground") dx fs5) g = some (.ins (ga K "Ground") dx fs5) := upd_same
    have nlg : lg ≠ g := fun z => by rw [z, u7] at hlg7; cases hlg7
    have nlb : lb ≠ g := fun z => by rw [z, u7] at hlb7; cases hlb7
    have hB2 : upd H7 g (.ins (ga K "Ground") dx fs5) lg = _ := (upd_ne nlg).trans hlg7
    have hB3 : upd H7 g (.ins (ga K "Ground") dx fs5) lb = _ := (upd_ne nlb).trans hlb7
    have hB4 : upd H7 g (.ins (ga K "Ground") dx fs5) la = none := (upd_ne hgl).trans hla
    have gB : But g H (upd H7 g (.ins (ga K "Ground") dx fs5)) := g7.trans But.put
    have hL0 : upd H8 g (.ins (ga K "Ground") dx fs5) la = some (.lst (natsV ((List.range (stepsL cols one two).length).map (aheadM (stepsL cols one two).length [])))) := (upd_ne hgl).trans hDD8
    generalize upd H7 g (.ins (ga K "Ground") dx fs5) = B at eB heB hB1 hB2 hB3 hB4 gB
    generalize upd H8 g (.ins (ga K "Ground") dx fs5) = H9 at eB hL0
    obtain ⟨sn, vs', z1, z2, z3⟩ := heB.snt
    have hsn : vs'.length = (sentsL cols one two).length := Paired.length z3
    refine ⟨_, rfl, (Same.xf eB z1).fld T.cl_Exchange T.n_Exchange_sentences ⟨sn, rfl, ⟨_, Same.tup eB z2⟩, ?_⟩⟩
    refine for_it (walk_tup (xs := vs')) (fun i σ H' => ∃ o2 o3 o4 o5, σ = [some (.ref g), some (.ref x), o2, o3, o4, o5, none, none] ∧ Same B H' ∧ H' la = some (.lst (natsV ((List.range (stepsL cols one two).length).map (aheadM (stepsL cols one two).length ((pbOf cols one two).prs.take i))))))
      ⟨none, none, none, none, rfl, eB, hL0⟩ (fun i σ H' _ ⟨_, _, _, _, _, e, _⟩ => Same.tup e z2) ?_ ?_
    · rintro i v σ Ha Hb hi ⟨o2, o3, o4, o5, rfl, ea, hla1⟩ ⟨rfl, hv⟩
      obtain ⟨q, hq, tq, rfl, htq⟩ := paired_get z3 hv
      have hpq : (pbOf cols one two).prs[i]? = some (q.1, q.2.1) := by
        show ((sentsL cols one two).map fun q => (q.1, q.2.1))[i]? = _
        rw [List.getElem?_map, hq]
        rfl
      obtain ⟨l1, l2⟩ := hok.lt _ (List.mem_of_getElem? hpq)
      have l1 : q.1 < (stepsL cols one two).length := l1
      have l2 : q.2.1 < (stepsL cols one two).length := l2
      have k1 : fs5.lookup ("ahead" : Str) = some (.ref la) := by rw [← hfs]; rfl
      have k2 : fs5.lookup ("bits" : Str) = some (.ref lb) := by rw [← hfs]; rfl
      walk_at "nf"
      refine ⟨tq, _, rfl, SqT.of (ea _ _ htq), rfl, _, _, rfl, _, _, rfl, _, _, rfl, _, _, rfl, rfl, _, rfl, g, _, dx, _, _, rfl, ea _ _ hB1, T.cl_Ground, T.n_Ground_ahead, k1, _, rfl, la, _, _, _, rfl, rfl, SqL.of hla1, atI_nat (rng_get l2), ?_⟩
      refine ⟨_, rfl, g, _, dx, _, _, rfl, ea _ _ hB1, T.cl_Ground, T.n_Ground_bits, k2, _, rfl, lb, _, _, _, rfl, rfl, SqL.of (ea _ _ hB3), atI_nat (rng_get l1), _, _, rfl, rfl, ?_⟩
      have tk : ∀ j, aheadM (stepsL cols one two).length ((pbOf cols one two).prs.take (i + 1)) j = aheadF (stepsL cols one two).length j (aheadM (stepsL cols one two).length ((pbOf cols one two).prs.take i) j) (q.1, q.2.1) := fun j => by
        rw [List.take_succ, hpq]
        exact aheadM_snoc _ _ _ _
      have hor : Builtin.bitOr (aheadM (stepsL cols one two).length ((pbOf cols one two).prs.take i) q.2.1 : Nat) (bit (stepsL cols one two).length q.1 : Nat) = ((aheadM (stepsL cols one two).length ((pbOf cols one two).prs.take (i + 1)) q.2.1 : Nat) : Int) := by
        rw [L2.bitOr_nn (Int.natCast_nonneg _) (Int.natCast_nonneg _), Int.toNat_natCast, Int.toNat_natCast, tk]
        unfold aheadF
        rw [if_pos rfl]
      dsimp only [L2.gSub, L2.tFld, L2.tVar]
      rw [hor]
      refine ⟨_, rfl, g, _, dx, _, _, rfl, ea _ _ hB1, T.cl_Ground, T.n_Ground_ahead, k1, _, rfl, la, _, _, _, rfl, rfl, hla1, ixN_n (by rw [natsV_len, List.length_map, List.length_range]; exact l2), _, _, _, _, rfl, fun b o hb => ?_, ?_⟩
      · rw [upd_ne (ne_of_none hb hB4)]
        exact ea b o hb
      · rw [upd_same, set_map l2 fun j hj => ?_]
        rw [tk]
        unfold aheadF
        rw [if_neg (fun z => hj z.symm)]
    · rintro σ Ha ⟨o2, o3, o4, o5, rfl, ea, hla1⟩
      have hpl : (pbOf cols one two).prs.length = vs'.length := by rw [hsn]; exact List.length_map ..
      rw [← hpl, List.take_length] at hla1
      refine k Ha (gB.trans (Same.but ea)) ⟨dx, lg, lb, la, ?_, ?_, ea _ _ hB3, hla1⟩
      · rw [ea _ _ hB1, ← hfs]
        rfl
      · rw [ea _ _ hB2]
        rw [hacc]
        rfl
end
end NS
set_option Elab.async false
set_option linter.all false
set_option maxRecDepth 100000
set_option maxHeartbeats 4000000
/-! Grounds: numbers, rows, next steps. -/
namespace NS
open PySem PySem.Spec PyProof.Rows L2 He
local macro_rules | `(tactic| walk_at "nf") => `(tactic| dsimp only [L2.tNext, L2.tSeq, L2.tDrop, L2.tRet, L2.tRetN, L2.tIfS, L2.tAsg, L2.gName, L2.gCons, L2.gNil, L2.gTup, L2.tOp, L2.tUn, L2.tTest, L2.tChain, L2.tB, L2.tAnd, L2.tOr, L2.tNot, L2.tAndV, L2.tOrV, L2.tNotV, L2.tIf, L2.tCB, L2.tNil, L2.tCons, L2.tTup, L2.tLst, L2.tFld, L2.sFld, L2.tCall, L2.tMeth, L2.tMake, L2.tBM, L2.tBM0, L2.tM1, L2.tM0, L2.tSl, L2.tPart, L2.tNoPart, L2.tPar, L2.tVar, L2.tC, L2.cxOf, L2.tYes, C8.tCut])
theorem bitAnd_nat (a b : Nat) : Builtin.bitAnd (a : Int) (b : Int) = ((a &&& b : Nat) : Int) := by
  rw [PyProof.Rows.bitAnd_pp (Int.natCast_nonneg _) (Int.natCast_nonneg _), Int.toNat_natCast, Int.toNat_natCast]
theorem bitOr_nat (a b : Nat) : Builtin.bitOr (a : Int) (b : Int) = ((a ||| b : Nat) : Int) := by
  rw [L2.bitOr_nn (Int.natCast_nonneg _) (Int.natCast_nonneg _), Int.toNat_natCast, Int.toNat_natCast]
theorem walk_rng0 {n : Nat} : Walk (Itr 0 n) n (fun _ => True) (YFn fun i => V.int ((i : Nat) : Int)) := (walk_range (lo := 0) (n := n)).mono (fun _ h => h) (fun i H x H' _ _ ⟨a, b⟩ => ⟨a, by rw [b]; simp⟩)
theorem bit_zero (n m k : Nat) : decide (V.int ((m &&& bit n k : Nat) : Int) = V.int 0) = !has n m k := by
  by_cases h : m &&& bit n k = 0
  · rw [h, and_bit.mp h]
    rfl
  · have h2 : has n m k = true := by
      cases q : has n m k with
      | true => rfl
      | false => exact absurd (and_bit.mpr q) h
    rw [h2]
    refine decide_eq_false fun z => h ?_
    have z := V.int.inj z
    omega
theorem bit_test (n m k : Nat) : (!decide (V.int ((m &&& bit n k : Nat) : Int) = V.int 0)) = has n m k := by rw [bit_zero, Bool.not_not]
theorem free_test {p : Pb} (ok : p.Ok) {m k : Nat} : decide (V.int ((m &&& aheadM p.n p.prs k : Nat) : Int) = V.int ((aheadM p.n p.prs k : Nat) : Int)) = p.free m k := by
  have h := free_and ok (m := m) (k := k)
  cases q : p.free m k with
  | true =>
    rw [h.mpr q]
    exact decide_eq_true rfl
  | false =>
    refine decide_eq_false fun z => ?_
    have z := Int.ofNat_inj.mp (V.int.inj z)
    rw [h.mp z] at q
    cases q
section
variable {P : Program} {w : World} {K : PySem.W.Frag} {mg : Str → Option Value} {base : Heap}
def sp_numbers_of (K : PySem.W.Frag) : Sp := fun vs H Q _ => ∃ g p m, vs = [.ref g, .int (m : Nat)] ∧ GrAt K H g p ∧ p.n ≤ 40 ∧ ∀ H' t, Same H H' → H t = none → H' t = some (.tup (natsV (nums p.n m))) → Q (.ref t) H'
theorem sc_Ground_numbers_of : FnScope ["self", "standing", "k"] ["self", "standing"] (defScope sGround_numbers_of) := ⟨rfl, rfl, rfl, by decide +kernel, rfl, by decide +kernel, by decide +kernel⟩
theorem ok_Ground_numbers_of (T : Tx K mg) : C8.Met P w K mg base 1 (ga K "Ground") "numbers_of" (sp_numbers_of K) [] := by
  refine met_of T.cl_Ground T.m_Ground_numbers_of T.f_Ground_numbers_of sc_Ground_numbers_of (fun _ _ _ _ _ _ us hl => match us, hl with | [_, _], _ => rfl) (fun vs H Q E h => ?_) (fun cdv A outer s H vs Q E hr h => ?_)
  · obtain ⟨g, p, m, rfl, _⟩ := h
    rfl
  · obtain ⟨g, p, m, rfl, hg, hn, k⟩ := h
    have nd := sc_Ground_numbers_of.nd
    refine ⟨_, (pss_one (ps_ret (pe_callTy call_tuple_of (by rfl) T.z_tuple (by decide +kernel) (pa_cons (pe_lc (own := [("k", 2)]) rfl nd (pi_range1 rfl T.z_range (pa_cons (pe_fld (pv 0) rfl) pa_nil)) (blkOk_by (by kernel_rfl)) (fun _ _ _ _ _ => (pg_name (i := 2) nd rfl (Or.inl rfl))) (fun _ _ _ _ _ => (pts_one (pt_cmpR op_ne (pe_op op_and (pv 1) (pe_ix (show IxR _ (rIxL K) from ix_list) (show PE _ _ (tFld K (tVar 0) "bits") from pe_fld (pv 0) rfl) (pv 2) (fun _ _ => rfl))) pe_int (nomark _)))) (fun _ _ _ _ _ => (pv 2))) pa_nil)))), ?_⟩
    obtain ⟨dx, lg, lb, la, g1, g2, g3, g4⟩ := hg.ex
    walk_at "nf"
    refine ⟨_, rfl, g, _, dx, _, _, rfl, g1, T.cl_Ground, T.n_Ground_many, by rfl, _, rfl, by omega, by omega, fun D hD => ?_⟩
    rw [Int.toNat_natCast]
    refine lc_go (walk_rng0 (n := p.n)) hD (fun i acc _ => acc = natsV ((List.range i).filter (has p.n m))) (fun H6 e6 => True.intro) rfl ?_ ?_
    · rintro i v H4 H5 acc hi e hDD hlen hacc ⟨rfl, rfl⟩
      walk_at "nf"
      refine ⟨rfl, _, rfl, _, rfl, g, _, dx, _, _, rfl, e _ _ g1, T.cl_Ground, T.n_Ground_bits, by rfl, _, rfl, lb, _, _, _, rfl, rfl, SqL.of (e _ _ g3), atI_nat (rng_get hi), _, _, rfl, rfl, ?_⟩
      dsimp only
      rw [bitAnd_nat]
      refine ⟨rfl, _, rfl, ?_⟩
      rw [bit_test]
      have tk : (List.range (i + 1)).filter (has p.n m) = (List.range i).filter (has p.n m) ++ (if has p.n m i = true then [i] else []) := by
        rw [List.range_succ, List.filter_append]
        cases h : has p.n m i <;> simp [h]
      cases h : has p.n m i with
      | true =>
        rw [h] at tk
        refine iteT ⟨_, rfl, lc_put hD hDD e hlen (by omega) id ?_⟩
        rw [hacc, tk, natsV_snoc]
        rfl
      | false =>
        rw [h] at tk
        refine iteF ⟨acc, hDD, e, by omega, ?_⟩
        dsimp only
        rw [hacc, tk]
        simp
    · rintro H4 acc e hDD hacc
      subst hacc
      refine ⟨D, _, rfl, .inl ⟨SqL.of hDD, fun t ht => ?_⟩⟩
      exact k _ t (e.new ht) (e.free ht) upd_same
def sp_gr_rows (K : PySem.W.Frag) : Sp := fun vs H Q _ => ∃ g p m, vs = [.ref g, .int (m : Nat)] ∧ GrAt K H g p ∧ p.n ≤ 40 ∧ ∀ H', Same H H' → Q (.int (p.rows m)) H'
theorem sc_Ground_rows_at : FnScope ["self", "standing", "k"] ["self", "standing"] (defScope sGround_rows_at) := ⟨rfl, rfl, rfl, by decide +kernel, rfl, by decide +kernel, by decide +kernel⟩
theorem ok_Ground_rows_at (T : Tx K mg) : C8.Met P w K mg base 2 (ga K "Ground") "rows_at" (sp_gr_rows K) [] := by
  refine met_of T.cl_Ground T.m_Ground_rows_at T.f_Ground_rows_at sc_Ground_rows_at (fun _ _ _ _ _ _ us hl => match us, hl with | [_, _], _ => rfl) (fun vs H Q E h => ?_) (fun cdv A outer s H vs Q E hr h => ?_)
  · obtain ⟨g, p, m, rfl, _⟩ := h
    rfl
  · obtain ⟨g, p, m, rfl, hg, hn, k⟩ := h
    have nd := sc_Ground_rows_at.nd
    refine ⟨_, (pss_one (ps_ret (pe_op op_add (pe_fld (pv 0) rfl) (pe_callB (cr_sum rfl) (by rfl) T.z_sum (by decide +kernel) (pa_cons (pe_lc (own := [("k", 2)]) rfl nd (pi_tup (C8.pe_mt (ok_Ground_numbers_of T) hr (by decide) (pv 0) (pa_cons (pv 1) pa_nil))) (blkOk_by (by kernel_rfl)) (fun _ _ _ _ _ => (pg_name (i := 2) nd rfl (Or.inl rfl))) (fun _ _ _ _ _ => pts_nil) (fun _ _ _ _ _ => (pe_ix (show IxR _ (rIxL K) from ix_list) (show PE _ _ (tFld K (tVar 0) "gains") from pe_fld (pv 0) rfl) (pv 2) (fun _ _ => rfl)))) pa_nil))))), ?_⟩
    obtain ⟨dx, lg, lb, la, g1, g2, g3, g4⟩ := hg.ex
    walk_at "nf"
    refine ⟨_, rfl, g, _, dx, _, _, rfl, g1, T.cl_Ground, T.n_Ground_begun, by rfl, ?_⟩
    refine ⟨_, rfl, g, dx, _, rfl, g1, by rfl, _, rfl, g, p, m, rfl, hg, hn, fun H1 t e1 ht0 ht => ?_⟩
    have hnl : (nums p.n m).length ≤ 40 := Nat.le_trans (cnt_le p.n m) hn
    refine ⟨t, rfl, ⟨_, SqT.of ht⟩, fun D hD => ?_⟩
    refine lc_go (walk_tup (xs := natsV (nums p.n m))) hD (fun i acc _ => acc = ((nums p.n m).take i).map fun k => V.int (p.gain k)) (fun H6 e6 => SqT.of (e6 _ _ ht)) rfl ?_ ?_
    · rintro i v H4 H5 acc hi e hDD hlen hacc ⟨rfl, hv⟩
      obtain ⟨kk, hkk, rfl⟩ := get_natsV hv
      rw [natsV_len] at hi
      have hkn : kk < p.n := (mem_nums.mp (List.mem_of_getElem? hkk)).1
      walk_at "nf"
      refine ⟨rfl, ?_⟩
      rw [if_pos rfl]
      have e2 := e1.trans e
      have hgk : ((List.range p.n).map fun k => V.int (p.gain k))[kk]? = some (.int (p.gain kk)) := by
        rw [List.getElem?_map, List.getElem?_range hkn]
        rfl
      refine ⟨_, rfl, g, _, dx, _, _, rfl, e2 _ _ g1, T.cl_Ground, T.n_Ground_gains, by rfl, _, rfl, lg, _, _, _, rfl, rfl, SqL.of (e2 _ _ g2), atI_nat hgk, lc_put hD hDD e hlen (by omega) id ?_⟩
      rw [hacc, List.take_succ, hkk, List.map_append]
      rfl
    · rintro H4 acc e hDD hacc
      rw [natsV_len, List.take_length] at hacc
      subst hacc
      refine ⟨D, (nums p.n m).map p.gain, rfl, ?_, _, _, rfl, rfl, k _ (e1.trans e)⟩
      rw [List.map_map]
      exact SqL.of hDD
def sp_next_steps (K : PySem.W.Frag) : Sp := fun vs H Q _ => ∃ g p m, vs = [.ref g, .int (m : Nat)] ∧ GrAt K H g p ∧ p.Ok ∧ p.n ≤ 40 ∧ ∀ H' l, Same H H' → H l = none → H' l = some (.lst (natsV (p.nxt m))) → Q (.ref l) H'
theorem sc_Ground_next_steps : FnScope ["self", "standing", "found", "k"] ["self", "standing"] (defScope sGround_next_steps) := ⟨rfl, rfl, rfl, by decide +kernel, rfl, by decide +kernel, by decide +kernel⟩
theorem ok_Ground_next_steps (T : Tx K mg) : C8.Met P w K mg base 1 (ga K "Ground") "next_steps" (sp_next_steps K) [] := by
  refine met_of T.cl_Ground T.m_Ground_next_steps T.f_Ground_next_steps sc_Ground_next_steps (fun _ _ _ _ _ _ us hl => match us, hl with | [_, _], _ => rfl) (fun vs H Q E h => ?_) (fun cdv A outer s H vs Q E hr h => ?_)
  · obtain ⟨g, p, m, rfl, _⟩ := h
    rfl
  · obtain ⟨g, p, m, rfl, hg, ok, hn, k⟩ := h
    have nd := sc_Ground_next_steps.nd
    refine ⟨_, (pss_cons (ps_set (i := 2) nd rfl (Or.inl rfl) (pe_lst pa_nil))
      (pss_cons (ps_for PassesOwn.never rfl (pi_range1 rfl T.z_range (pa_cons (pe_fld (pv 0) rfl) pa_nil)) (pg_name (i := 3) nd rfl (Or.inl rfl))
      (pss_one (ps_if (PW.pt (pw_and (pt_cmpR op_eq (pe_op op_and (pv 1) (pe_ix ix_list (pe_fld (pv 0) rfl) (pv 3) (fun _ _ => rfl))) pe_int (nomark _)) (pw_and1 (pt_cmpR op_eq (pe_op op_and (pv 1) (pe_ix ix_list (pe_fld (pv 0) rfl) (pv 3) (fun _ _ => rfl))) (pe_ix ix_list (pe_fld (pv 0) rfl) (pv 3) (fun _ _ => rfl)) (nomark _))))) (pss_one (ps_expr (pe_bm PySem.F.plainAttrs_list PySem.F.slot_list_append PySem.F.type_list_append mt_append (pv 2) (pa_cons (pv 3) pa_nil)))) pss_nil)))
      (pss_one (ps_ret (pv 2))))), ?_⟩
    obtain ⟨dx, lg, lb, la, g1, g2, g3, g4⟩ := hg.ex
    walk_at "nf"
    refine ⟨Nat.zero_le _, fun F hF => ?_⟩
    have e0 : Same H (upd H F (.lst [])) := (Same.refl _).new hF
    refine ⟨_, rfl, g, _, dx, _, _, rfl, e0 _ _ g1, T.cl_Ground, T.n_Ground_many, by rfl, _, rfl, by omega, by omega, ?_⟩
    rw [Int.toNat_natCast]
    refine for_it (walk_rng0 (n := p.n)) (fun i σ H' => ∃ o, σ = [some (.ref g), some (.int (m : Nat)), some (.ref F), o] ∧ Same H H' ∧ H' F = some (.lst (natsV ((List.range i).filter fun k => !has p.n m k && p.free m k)))) ⟨none, rfl, e0, upd_same⟩ (fun i σ H' _ _ => True.intro) ?_ ?_
    · rintro i v σ H4 H5 hi ⟨o, rfl, e, hFF⟩ ⟨rfl, rfl⟩
      have tk : (List.range (i + 1)).filter (fun k => !has p.n m k && p.free m k) = (List.range i).filter (fun k => !has p.n m k && p.free m k) ++ (if (!has p.n m i && p.free m i) = true then [i] else []) := by
        rw [List.range_succ, List.filter_append]
        cases h : (!has p.n m i && p.free m i) <;> simp [h]
      walk_at "nf"
      refine ⟨_, rfl, _, rfl, g, _, dx, _, _, rfl, e _ _ g1, T.cl_Ground, T.n_Ground_bits, by rfl, _, rfl, lb, _, _, _, rfl, rfl, SqL.of (e _ _ g3), atI_nat (rng_get hi), _, _, rfl, rfl, ?_⟩
      dsimp only
      rw [bitAnd_nat]
      refine ⟨rfl, _, rfl, ?_⟩
      rw [bit_zero]
      cases h : has p.n m i with
      | true =>
        rw [h] at tk
        refine iteF (iteF ⟨_, rfl, e, ?_⟩)
        rw [hFF, tk]
        simp
      | false =>
        refine iteT ⟨_, rfl, _, rfl, g, _, dx, _, _, rfl, e _ _ g1, T.cl_Ground, T.n_Ground_ahead, by rfl, _, rfl, la, _, _, _, rfl, rfl, SqL.of (e _ _ g4), atI_nat (rng_get hi), _, _, rfl, rfl, ?_⟩
        refine ⟨_, rfl, g, _, dx, _, _, rfl, e _ _ g1, T.cl_Ground, T.n_Ground_ahead, by rfl, _, rfl, la, _, _, _, rfl, rfl, SqL.of (e _ _ g4), atI_nat (rng_get hi), ?_⟩
        dsimp only
        rw [bitAnd_nat]
        refine ⟨rfl, _, rfl, ?_⟩
        rw [free_test ok]
        rw [h] at tk
        cases hf : p.free m i with
        | true =>
          rw [hf] at tk
          have hlen : ((List.range i).filter (fun k => !has p.n m k && p.free m k)).length ≤ i := by
            have := List.length_filter_le (fun k => !has p.n m k && p.free m k) (List.range i)
            rwa [List.length_range] at this
          refine iteT ⟨_, rfl, .inl ⟨rfl, _, SqL.of hFF⟩, _, rfl, F, _, _, rfl, rfl, hFF, by rw [natsV_len, sizeLine_eq]; omega, _, rfl, e.mut hF, ?_⟩
          rw [upd_same, tk, natsV_snoc]
          rfl
        | false =>
          rw [hf] at tk
          refine iteF ⟨_, rfl, e, ?_⟩
          rw [hFF, tk]
          simp
    · rintro σ H4 ⟨o, rfl, e, hFF⟩
      exact ⟨_, rfl, k _ F e hF hFF⟩
end
end NS
set_option Elab.async false
set_option linter.all false
set_option maxRecDepth 100000
set_option maxHeartbeats 4000000
/-! Grounds: the steps within the room. -/
namespace NS
open PySem PySem.Spec PyProof.Rows L2 He
local macro_rules | `(tactic| walk_at "nf") => `(tactic| dsimp only [L2.tNext, L2.tSeq, L2.tDrop, L2.tRet, L2.tRetN, L2.tIfS, L2.tAsg, L2.gName, L2.gCons, L2.gNil, L2.gTup, L2.tOp, L2.tUn, L2.tTest, L2.tChain, L2.tB, L2.tAnd, L2.tOr, L2.tNot, L2.tAndV, L2.tOrV, L2.tNotV, L2.tIf, L2.tCB, L2.tNil, L2.tCons, L2.tTup, L2.tLst, L2.tFld, L2.sFld, L2.tCall, L2.tMeth, L2.tMake, L2.tBM, L2.tBM0, L2.tM1, L2.tM0, L2.tSl, L2.tPart, L2.tNoPart, L2.tPar, L2.tVar, L2.tC, L2.cxOf, L2.tYes, C8.tCut])
theorem nxt_len (p : Pb) (m : Nat) : (p.nxt m).length ≤ p.n := by
  have := List.length_filter_le (fun k => !has p.n m k && p.free m k) (List.range p.n)
  rwa [List.length_range] at this
section
variable {P : Program} {w : World} {K : PySem.W.Frag} {mg : Str → Option Value} {base : Heap}
def sp_within (K : PySem.W.Frag) : Sp := fun vs H Q _ => ∃ g p m, ∃ top : Int, vs = [.ref g, .int (m : Nat), .int top] ∧ GrAt K H g p ∧ p.Ok ∧ p.n ≤ 40 ∧ ∀ H' l, Same H H' → H l = none → H' l = some (.lst (natsV (p.within top m))) → Q (.ref l) H'
theorem sc_Ground_steps_within : FnScope ["self", "standing", "most", "found", "k", "later"] ["self", "standing", "most"] (defScope sGround_steps_within) := ⟨rfl, rfl, rfl, by decide +kernel, rfl, by decide +kernel, by decide +kernel⟩
theorem ok_Ground_steps_within (T : Tx K mg) : C8.Met P w K mg base 3 (ga K "Ground") "steps_within" (sp_within K) [] := by
  refine met_of T.cl_Ground T.m_Ground_steps_within T.f_Ground_steps_within sc_Ground_steps_within (fun _ _ _ _ _ _ us hl => match us, hl with | [_, _, _], _ => rfl) (fun vs H Q E h => ?_) (fun cdv A outer s H vs Q E hr h => ?_)
  · obtain ⟨g, p, m, top, rfl, _⟩ := h
    rfl
  · obtain ⟨g, p, m, top, rfl, hg, ok, hn, k⟩ := h
    have nd := sc_Ground_steps_within.nd
    refine ⟨_, (pss_cons (ps_setLc (i := 3) (own := [("k", 4)]) rfl nd rfl rfl (sw_true rfl rfl rfl (by kernel_rfl)) (pi_list (C8.pe_mt (ok_Ground_next_steps T) hr (by decide) (pv 0) (pa_cons (pv 1) pa_nil))) (blkOk_by (by kernel_rfl)) (fun _ _ _ _ _ => (pg_name (i := 4) nd rfl (Or.inl rfl))) (fun _ _ _ _ _ => pts_nil) (fun _ _ _ _ _ => (pe_op op_or (pv 1) (pe_ix (show IxR _ (rIxL K) from ix_list) (show PE _ _ (tFld K (tVar 0) "bits") from pe_fld (pv 0) rfl) (pv 4) (fun _ _ => rfl)))))
      (pss_one (ps_ret (pe_lc (own := [("later", 5)]) rfl nd (pi_list (pv 3)) (blkOk_by (by kernel_rfl)) (fun _ _ _ _ _ => (pg_name (i := 5) nd rfl (Or.inl rfl))) (fun _ _ _ _ _ => (pts_one (pt_cmpR op_le (C8.pe_mt (ok_Ground_rows_at T) hr (by decide) (pv 0) (pa_cons (pv 5) pa_nil)) (pv 2) (nomark _)))) (fun _ _ _ _ _ => (pv 5)))))), ?_⟩
    obtain ⟨dx, lg, lb, la, g1, g2, g3, g4⟩ := hg.ex
    have hnl := nxt_len p m
    walk_at "nf"
    refine ⟨_, rfl, g, dx, _, rfl, g1, by rfl, _, rfl, g, p, m, rfl, hg, ok, hn, fun H1 L e1 hL0 hL => ?_⟩
    refine ⟨L, rfl, ⟨_, SqL.of hL⟩, fun D hD => ?_⟩
    refine lc_go (walk_list (xs := natsV (p.nxt m))) hD (fun i acc _ => acc = natsV (((p.nxt m).take i).map fun k => m ||| bit p.n k)) (fun H6 e6 => SqL.of (e6 _ _ hL)) rfl ?_ ?_
    · rintro i v H4 H5 acc hi e hDD hlen hacc ⟨rfl, hv⟩
      obtain ⟨kk, hkk, rfl⟩ := get_natsV hv
      rw [natsV_len] at hi
      have hkn : kk < p.n := (mem_nxt.mp (List.mem_of_getElem? hkk)).1
      have e2 := e1.trans e
      walk_at "nf"
      refine ⟨rfl, ?_⟩
      rw [if_pos rfl]
      refine ⟨_, rfl, _, rfl, g, _, dx, _, _, rfl, e2 _ _ g1, T.cl_Ground, T.n_Ground_bits, by rfl, _, rfl, lb, _, _, _, rfl, rfl, SqL.of (e2 _ _ g3), atI_nat (rng_get hkn), _, _, rfl, rfl, ?_⟩
      dsimp only
      rw [bitOr_nat]
      refine lc_put hD hDD e hlen (by omega) id ?_
      rw [hacc, List.take_succ, hkk, List.map_append, natsV_snoc]
      rfl
    · rintro H4 acc e hDD hacc
      rw [natsV_len, List.take_length] at hacc
      subst hacc
      have e2 := e1.trans e
      refine ⟨_, rfl, D, rfl, ⟨_, SqL.of hDD⟩, fun D2 hD2 => ?_⟩
      refine lc_go (walk_list (xs := natsV ((p.nxt m).map fun k => m ||| bit p.n k))) hD2 (fun i acc _ => acc = natsV ((((p.nxt m).map fun k => m ||| bit p.n k).take i).filter fun x => decide (p.rows x ≤ top))) (fun H6 e6 => SqL.of (e6 _ _ hDD)) rfl ?_ ?_
      · rintro i v H5 H6 acc hi e5 hDD2 hlen hacc ⟨rfl, hv⟩
        obtain ⟨y, hy, rfl⟩ := get_natsV hv
        rw [natsV_len, List.length_map] at hi
        have tk : ((((p.nxt m).map fun k => m ||| bit p.n k).take (i + 1)).filter fun x => decide (p.rows x ≤ top)) = ((((p.nxt m).map fun k => m ||| bit p.n k).take i).filter fun x => decide (p.rows x ≤ top)) ++ (if p.rows y ≤ top then [y] else []) := by
          rw [List.take_succ, hy, List.filter_append]
          by_cases h : p.rows y ≤ top
          · simp [h]
          · simp [h]
        walk_at "nf"
        refine ⟨rfl, _, rfl, g, dx, _, rfl, (e2.trans e5) _ _ g1, by rfl, _, rfl, g, p, y, rfl, Same.gr (e2.trans e5) hg, hn, fun H7 e7 => ⟨_, rfl, _, _, rfl, rfl, _, rfl, ?_⟩⟩
        have hDD3 := e7 _ _ hDD2
        by_cases h : p.rows y ≤ top
        · rw [decide_eq_true h]
          rw [if_pos h] at tk
          refine iteT ⟨_, rfl, lc_put hD2 hDD3 (e5.trans e7) hlen (by omega) id ?_⟩
          rw [hacc, tk, natsV_snoc]
        · rw [decide_eq_false h]
          rw [if_neg h, List.append_nil] at tk
          refine iteF ⟨acc, hDD3, e5.trans e7, by omega, ?_⟩
          dsimp only
          rw [hacc, tk]
      · rintro H5 acc e5 hDD2 hacc
        rw [natsV_len, List.take_length] at hacc
        subst hacc
        exact k _ D2 (e2.trans e5) (e2.free hD2) hDD2
end
end NS
set_option Elab.async false
set_option linter.all false
set_option maxRecDepth 100000
set_option maxHeartbeats 4000000
/-! Grounds: the layers. -/
namespace NS
open PySem PySem.Spec PyProof.Rows L2 He
local macro_rules | `(tactic| walk_at "nf") => `(tactic| dsimp only [L2.tNext, L2.tSeq, L2.tDrop, L2.tRet, L2.tRetN, L2.tIfS, L2.tAsg, L2.gName, L2.gCons, L2.gNil, L2.gTup, L2.tOp, L2.tUn, L2.tTest, L2.tChain, L2.tB, L2.tAnd, L2.tOr, L2.tNot, L2.tAndV, L2.tOrV, L2.tNotV, L2.tIf, L2.tCB, L2.tNil, L2.tCons, L2.tTup, L2.tLst, L2.tFld, L2.sFld, L2.tCall, L2.tMeth, L2.tMake, L2.tBM, L2.tBM0, L2.tM1, L2.tM0, L2.tSl, L2.tPart, L2.tNoPart, L2.tPar, L2.tVar, L2.tC, L2.cxOf, L2.tYes, C8.tCut])
/-- the dict whose keys are the numbers of l, all True -/
def trueK (l : List Nat) : List (Key × V) := l.map fun k => (Sum.inl ((k : Nat) : Int), V.bl true)
def ins (l : List Nat) (x : Nat) : List Nat := if x ∈ l then l else l ++ [x]
theorem mem_ins {l : List Nat} {x y : Nat} : y ∈ ins l x ↔ y ∈ l ∨ y = x := by
  unfold ins
  split
  · rename_i h
    constructor
    · exact .inl
    · rintro (h2 | h2)
      · exact h2
      · rw [h2]; exact h
  · simp
theorem nd_ins {l : List Nat} {x : Nat} (h : l.Nodup) : (ins l x).Nodup := by
  unfold ins
  split
  · exact h
  · rename_i hx
    rw [List.nodup_append]
    exact ⟨h, by simp, fun a ha b hb e => hx (by rw [List.mem_singleton.mp hb] at e; rw [← e]; exact ha)⟩
theorem put_true (l : List Nat) (x : Nat) : putK (trueK l) (Sum.inl ((x : Nat) : Int)) (.bl true) = trueK (ins l x) := by
  have hany : ((trueK l).any fun kv => decide (kv.1 = Sum.inl ((x : Nat) : Int))) = decide (x ∈ l) := by
    unfold trueK
    rw [List.any_map]
    induction l with
    | nil => rfl
    | cons y r ih =>
      rw [List.any_cons, ih]
      by_cases h : y = x
      · subst h
        simp
      · have : ¬ x = y := fun z => h z.symm
        simp only [Function.comp, List.mem_cons, this, false_or]
        rw [decide_eq_false (fun z : (Sum.inl ((y : Nat) : Int) : Key) = Sum.inl ((x : Nat) : Int) => h (Int.ofNat_inj.mp (Sum.inl.inj z)))]
        rfl
  unfold putK ins
  rw [hany]
  by_cases h : x ∈ l
  · rw [decide_eq_true h, if_pos rfl, if_pos h]
    unfold trueK
    rw [List.map_map]
    refine List.map_congr_left fun y _ => ?_
    show (if (Sum.inl ((y : Nat) : Int) : Key) = Sum.inl ((x : Nat) : Int) then _ else _) = _
    split <;> rfl
  · rw [decide_eq_false h, if_neg Bool.false_ne_true, if_neg h]
    unfold trueK
    rw [List.map_append]
    rfl
/-- a layer: the strict standings of j steps, each once -/
structure Lay (p : Pb) (j : Nat) (l : List Nat) : Prop where
  nd : l.Nodup
  mem : ∀ m, m ∈ l ↔ SR p j m
theorem nodup_lt {n : Nat} {l : List Nat} (h : l.Nodup) (hl : ∀ x ∈ l, x < n) : l.length ≤ n := by
  have := len_sub (m := List.range n) h fun x hx => List.mem_range.mpr (hl x hx)
  rwa [List.length_range] at this
theorem Lay.len {p : Pb} {j : Nat} {l : List Nat} (h : Lay p j l) : l.length ≤ 2 ^ p.n := nodup_lt h.nd fun x hx => ((h.mem x).mp hx).lt
theorem lay_zero (p : Pb) : Lay p 0 [0] := ⟨by simp, fun m => by
  rw [List.mem_singleton]
  constructor
  · rintro rfl; exact .zero
  · intro h
    cases h
    rfl⟩
section
variable {P : Program} {w : World} {K : PySem.W.Frag} {mg : Str → Option Value} {base : Heap}
def LaysAt (H : Hp) (as : List Addr) (p : Pb) : Prop := ∀ (j : Nat) a, as[j]? = some a → ∃ l, H a = some (.lst (natsV l)) ∧ Lay p j l
def sp_layers (K : PySem.W.Frag) : Sp := fun vs H Q _ => ∃ g p, vs = [.ref g] ∧ GrAt K H g p ∧ p.Ok ∧ p.n ≤ 6 ∧ ∀ H' l as, Same H H' → H l = none → H' l = some (.lst (as.map V.ref)) → as.length = p.n + 1 → LaysAt H' as p → Q (.ref l) H'
theorem sc_Ground_layers : FnScope ["self", "found", "total", "turn", "fresh", "standing", "k"] ["self"] (defScope sGround_layers) := ⟨rfl, rfl, rfl, by decide +kernel, rfl, by decide +kernel, by decide +kernel⟩
theorem ok_Ground_layers (T : Tx K mg) : C8.Met P w K mg base 2 (ga K "Ground") "layers" (sp_layers K) [] := by
  refine met_of T.cl_Ground T.m_Ground_layers T.f_Ground_layers sc_Ground_layers (fun _ _ _ _ _ _ us hl => match us, hl with | [_], _ => rfl) (fun vs H Q E h => ?_) (fun cdv A outer s H vs Q E hr h => ?_)
  · obtain ⟨g, p, rfl, _⟩ := h
    rfl
  · obtain ⟨g, p, rfl, hg, ok, hn, k⟩ := h
    have nd := sc_Ground_layers.nd
    have hu := hu_of hr
    refine ⟨_, (pss_cons (ps_set (i := 1) nd rfl (Or.inl rfl) (pe_lst (pa_cons (pe_lst (pa_cons pe_int pa_nil)) pa_nil)))
      (pss_cons (ps_set (i := 2) nd rfl (Or.inl rfl) pe_int)
      (pss_cons (ps_for PassesOwn.never rfl (pi_range1 rfl T.z_range (pa_cons (pe_fld (pv 0) rfl) pa_nil)) (pg_name (i := 3) nd rfl (Or.inl rfl))
      (pss_cons (ps_set (i := 4) nd rfl (Or.inl rfl) pe_dnewK)
      (pss_cons (ps_for PassesOwn.never rfl (pi_list (pe_ix ix_list (pv 1) (pv 3) (fun _ _ => rfl))) (pg_name (i := 5) nd rfl (Or.inl rfl))
      (pss_one (ps_for PassesOwn.never rfl (pi_list (C8.pe_mt (ok_Ground_next_steps T) hr (by decide) (pv 0) (pa_cons (pv 5) pa_nil))) (pg_name (i := 6) nd rfl (Or.inl rfl))
      (pss_one (ps_dput hu (pv 4) (pe_op op_or (pv 5) (pe_ix ix_list (pe_fld (pv 0) rfl) (pv 6) (fun _ _ => rfl))) pe_bl rfl)))))
      (pss_cons (ps_aug (i := 2) nd rfl (Or.inl rfl) (pe_callB call_lenD (by rfl) T.z_len (by decide +kernel) (pa_cons (pv 4) pa_nil)) ip_add)
      (pss_cons (ps_if (pt_cmpR op_gt (pv 2) (C8.pe_gc rfl T.v_MOST_STANDINGS) (nomark _)) (pss_one ps_never) pss_nil)
      (pss_one (ps_expr (pe_bm PySem.F.plainAttrs_list PySem.F.slot_list_append PySem.F.type_list_append mt_append (pv 1) (pa_cons (pe_callTy (call_listD rfl) (by rfl) T.z_list (by decide +kernel) (pa_cons (pv 4) pa_nil)) pa_nil)))))))))
      (pss_one (ps_ret (pv 1)))))), ?_⟩
    obtain ⟨dx, lg, lb, la, g1, g2, g3, g4⟩ := hg.ex
    walk_at "nf"
    refine ⟨by show 1 ≤ sizeLine; decide, fun Z hZ => ⟨by show 1 ≤ sizeLine; decide, fun F hF => ?_⟩⟩
    have hZF : Z ≠ F := fun z => by rw [← z, upd_same] at hF; cases hF
    have eZ : Same H (upd H Z (.lst [.int 0])) := (Same.refl _).new hZ
    have eF := eZ.new (o := .lst [.ref Z]) hF
    have hFn : H F = none := eZ.free hF
    have hpow : 2 ^ p.n ≤ 2 ^ 6 := Nat.pow_le_pow_right (by decide) hn
    refine ⟨_, rfl, g, _, dx, _, _, rfl, eF _ _ g1, T.cl_Ground, T.n_Ground_many, by rfl, _, rfl, by omega, by omega, ?_⟩
    rw [Int.toNat_natCast]
    refine for_it (walk_rng0 (n := p.n)) (fun i σ H' => ∃ (as : List Addr) (tot : Nat) (o3 o4 o5 o6 : Option V), σ = [some (.ref g), some (.ref F), some (.int (tot : Nat)), o3, o4, o5, o6] ∧ Same H H' ∧ H' F = some (.lst (as.map V.ref)) ∧ as.length = i + 1 ∧ LaysAt H' as p ∧ tot ≤ 1 + i * 64)
      ⟨[Z], 1, none, none, none, none, rfl, eF, upd_same, rfl, fun j a hj => ?_, by omega⟩ (fun i σ H' _ _ => True.intro) ?_ ?_
    · cases j with
      | zero =>
        obtain rfl : Z = a := Option.some.inj hj
        exact ⟨[0], by rw [upd_ne hZF, upd_same]; rfl, lay_zero p⟩
      | succ j => simp at hj
    · rintro i v σ H1 H2 hi ⟨as, tot, o3, o4, o5, o6, rfl, e1, hF1, hal, hla, htot⟩ ⟨rfl, rfl⟩
      walk_at "nf"
      obtain ⟨ai, hai⟩ : ∃ ai, as[i]? = some ai := ⟨_, List.getElem?_eq_getElem (by omega)⟩
      obtain ⟨li, hli, hlay⟩ := hla i ai hai
      have hlen := hlay.len
      dsimp only [L2.tDNewK]
      intro D hD
      have eD : Same H2 (upd H2 D (.dK [])) := (Same.refl _).new hD
      refine ⟨_, rfl, _, rfl, F, _, _, _, rfl, rfl, SqL.of (eD _ _ hF1), atI_nat (by rw [List.getElem?_map, hai]; rfl), ai, rfl, ⟨_, SqL.of (eD _ _ hli)⟩, ?_⟩
      refine for_it (walk_list (xs := natsV li)) (fun s σ H' => ∃ (o5 o6 : Option V) (cur : List Nat), σ = [some (.ref g), some (.ref F), some (.int (tot : Nat)), some (.int (i : Nat)), some (.ref D), o5, o6] ∧ Same H2 H' ∧ H' D = some (.dK (trueK cur)) ∧ cur.Nodup ∧
          ∀ y, y ∈ cur ↔ ∃ m ∈ li.take s, ∃ k ∈ p.nxt m, y = m ||| bit p.n k)
        ⟨o5, o6, [], rfl, eD, upd_same, by simp, fun y => by simp⟩ (fun s σ H' _ ⟨_, _, _, _, e, _⟩ => SqL.of (e _ _ hli)) ?_ ?_
      · rintro s v σ H3 H4 hs ⟨q5, q6, cur, rfl, e3, hcur, hcn, hcm⟩ ⟨rfl, hv⟩
        obtain ⟨m, hm, rfl⟩ := get_natsV hv
        have hmS := (hlay.mem m).mp (List.mem_of_getElem? hm)
        walk_at "nf"
        have e14 := e1.trans e3
        refine ⟨_, rfl, g, dx, _, rfl, e14 _ _ g1, by rfl, _, rfl, g, p, m, rfl, Same.gr e14 hg, ok, by omega, fun H5 L e5 hL0 hL => ⟨L, rfl, ⟨_, SqL.of hL⟩, ?_⟩⟩
        have hcur5 := e5 _ _ hcur
        have hLD : L ≠ D := fun z => by rw [z, hcur] at hL0; cases hL0
        refine for_it (walk_list (xs := natsV (p.nxt m))) (fun j σ H' => ∃ (o6 : Option V) (cu : List Nat), σ = [some (.ref g), some (.ref F), some (.int (tot : Nat)), some (.int (i : Nat)), some (.ref D), some (.int (m : Nat)), o6] ∧ Same H2 H' ∧ H' L = some (.lst (natsV (p.nxt m))) ∧ H' D = some (.dK (trueK cu)) ∧ cu.Nodup ∧
            ∀ y, y ∈ cu ↔ y ∈ cur ∨ ∃ k ∈ (p.nxt m).take j, y = m ||| bit p.n k)
          ⟨q6, cur, rfl, e3.trans e5, hL, hcur5, hcn, fun y => by simp⟩ (fun j σ H' _ ⟨_, _, _, _, h, _⟩ => SqL.of h) ?_ ?_
        · rintro j v σ H6 H7 hj ⟨r6, cu, rfl, e6, hL6, hcu, hcun, hcum⟩ ⟨rfl, hv⟩
          obtain ⟨kk, hkk, rfl⟩ := get_natsV hv
          have hkn : kk < p.n := (mem_nxt.mp (List.mem_of_getElem? hkk)).1
          have e16 := e1.trans e6
          walk_at "nf"
          unfold L2.sDPut
          refine ⟨_, rfl, _, rfl, _, rfl, g, _, dx, _, _, rfl, e16 _ _ g1, T.cl_Ground, T.n_Ground_bits, by rfl, _, rfl, lb, _, _, _, rfl, rfl, SqL.of (e16 _ _ g3), atI_nat (rng_get hkn), _, _, rfl, rfl, ?_⟩
          dsimp only
          rw [bitOr_nat]
          have hlt : ∀ y ∈ cu, y < 2 ^ p.n := fun y hy => by
            rcases (hcum y).mp hy with h | ⟨k', hk', rfl⟩
            · obtain ⟨m', h1, k', h2, rfl⟩ := (hcm y).mp h
              exact or_lt ((hlay.mem m').mp (List.mem_of_mem_take h1)).lt (mem_nxt.mp h2).1
            · exact or_lt hmS.lt (mem_nxt.mp (List.mem_of_mem_take hk')).1
          have hcl := nodup_lt hcun hlt
          have htl : (trueK cu).length = cu.length := List.length_map ..
          refine ⟨D, _, rfl, DPut.k (k := Sum.inl ((m ||| bit p.n kk : Nat) : Int)) hcu (lt_size (by omega)), _, ins cu (m ||| bit p.n kk), rfl, e6.mut hD, (upd_ne hLD).trans hL6, by rw [upd_same, put_true], nd_ins hcun, fun y => ?_⟩
          rw [mem_ins, hcum, List.take_succ, hkk]
          constructor
          · rintro ((h | ⟨k', h1, h2⟩) | h)
            · exact .inl h
            · exact .inr ⟨k', List.mem_append_left _ h1, h2⟩
            · exact .inr ⟨kk, by simp, h⟩
          · rintro (h | ⟨k', h1, h2⟩)
            · exact .inl (.inl h)
            · rcases List.mem_append.mp h1 with h1 | h1
              · exact .inl (.inr ⟨k', h1, h2⟩)
              · have h1 : k' = kk := by simpa using h1
                rw [h1] at h2
                exact .inr h2
        · rintro σ H6 ⟨r6, cu, rfl, e6, hL6, hcu, hcun, hcum⟩
          rw [natsV_len, List.take_length] at hcum
          refine ⟨_, r6, cu, rfl, e6, hcu, hcun, fun y => ?_⟩
          rw [hcum, hcm, List.take_succ, hm]
          constructor
          · rintro (⟨m', h1, h2⟩ | h)
            · exact ⟨m', List.mem_append_left _ h1, h2⟩
            · exact ⟨m, by simp, h⟩
          · rintro ⟨m', h1, h2⟩
            rcases List.mem_append.mp h1 with h1 | h1
            · exact .inl ⟨m', h1, h2⟩
            · have h1 : m' = m := by simpa using h1
              rw [h1] at h2
              exact .inr h2
      · rintro σ H3 ⟨q5, q6, cur, rfl, e3, hcur, hcn, hcm⟩
        rw [natsV_len, List.take_length] at hcm
        have hcl : Lay p (i + 1) cur := ⟨hcn, fun y => by
          rw [hcm]
          constructor
          · rintro ⟨m, h1, k, h2, rfl⟩
            exact .step ((hlay.mem m).mp h1) h2
          · intro h
            cases h with
            | step h1 h2 => exact ⟨_, (hlay.mem _).mpr h1, _, h2, rfl⟩⟩
        have hcle := hcl.len
        have htl : (trueK cur).length = cur.length := List.length_map ..
        walk_at "nf"
        have hFD : F ≠ D := fun z => by rw [z, hD] at hF1; cases hF1
        have e13 := e1.trans e3
        refine ⟨_, rfl, _, rfl, D, _, rfl, hcur, _, _, rfl, rfl, ?_⟩
        have htt : ((tot : Nat) : Int) + ((trueK cur).length : Nat) = ((tot + cur.length : Nat) : Int) := by rw [htl]; omega
        dsimp only
        rw [htt]
        refine ⟨_, rfl, _, _, rfl, rfl, _, rfl, ?_⟩
        rw [decide_eq_false (show ¬ (2000 : Int) < ((tot + cur.length : Nat) : Int) by omega)]
        refine iteF ⟨_, rfl, .inl ⟨rfl, _, SqL.of (e3 _ _ hF1)⟩, _, rfl, D, _, rfl, .inl hcur, fun R hR => ?_⟩
        have hm2 : (trueK cur).map (fun kv => kV kv.1) = natsV cur := by
          unfold trueK natsV
          rw [List.map_map]
          rfl
        rw [hm2]
        have hFR : F ≠ R := ne_of_none (e3 _ _ hF1) hR
        have hDR : D ≠ R := ne_of_none hcur hR
        refine ⟨F, _, _, rfl, rfl, (upd_ne hFR).trans (e3 _ _ hF1), by rw [List.length_map]; exact lt_size (by omega), ?_⟩
        refine ⟨as ++ [R], tot + cur.length, _, _, _, _, rfl, (e13.new hR).mut hFn, by rw [upd_same, List.map_append]; rfl, by rw [List.length_append, hal]; rfl, fun j a hja => ?_, by omega⟩
        by_cases hj : j < as.length
        · rw [List.getElem?_append_left hj] at hja
          obtain ⟨l, hl1, hl2⟩ := hla j a hja
          have haF : a ≠ F := fun z => by
            rw [z, hF1] at hl1
            cases as with
            | nil => simp at hj
            | cons x r =>
              cases l with
              | nil => cases hl1
              | cons y t => cases hl1
          have h3 := e3 _ _ hl1
          exact ⟨l, (upd_ne haF).trans ((upd_ne (ne_of_none h3 hR)).trans h3), hl2⟩
        · rw [List.getElem?_append_right (by omega)] at hja
          have hz : j = as.length := by
            have := (List.getElem?_eq_some_iff.mp hja).1
            simp only [List.length_singleton] at this
            omega
          subst hz
          rw [Nat.sub_self] at hja
          obtain rfl : R = a := Option.some.inj hja
          rw [hal]
          exact ⟨cur, (upd_ne hFR.symm).trans upd_same, hcl⟩
    · rintro σ H1 ⟨as, tot, o3, o4, o5, o6, rfl, e1, hF1, hal, hla, htot⟩
      exact ⟨_, rfl, k _ F as e1 hFn hF1 hal hla⟩
end
end NS
set_option Elab.async false
set_option linter.all false
set_option maxRecDepth 100000
set_option maxHeartbeats 4000000
/-! Grounds: the needs. -/
namespace NS
open PySem PySem.Spec PyProof.Rows L2 He
local macro_rules | `(tactic| walk_at "nf") => `(tactic| dsimp only [L2.tNext, L2.tSeq, L2.tDrop, L2.tRet, L2.tRetN, L2.tIfS, L2.tAsg, L2.gName, L2.gCons, L2.gNil, L2.gTup, L2.tOp, L2.tUn, L2.tTest, L2.tChain, L2.tB, L2.tAnd, L2.tOr, L2.tNot, L2.tAndV, L2.tOrV, L2.tNotV, L2.tIf, L2.tCB, L2.tNil, L2.tCons, L2.tTup, L2.tLst, L2.tFld, L2.sFld, L2.tCall, L2.tMeth, L2.tMake, L2.tBM, L2.tBM0, L2.tM1, L2.tM0, L2.tSl, L2.tPart, L2.tNoPart, L2.tPar, L2.tVar, L2.tC, L2.cxOf, L2.tYes, C8.tCut])
/-! ### the mirror -/
def minI : List Int → Int
  | [] => 0
  | [a] => a
  | a :: b :: r => if a ≤ minI (b :: r) then a else minI (b :: r)
theorem minI_ok : ∀ {l : List Int}, l ≠ [] → IsMin (minI l) l
  | [], h => absurd rfl h
  | [a], _ => ⟨by simp [minI], fun x hx => by rw [List.mem_singleton.mp hx]; exact Int.le_refl _⟩
  | a :: b :: r, _ => by
    have ih := minI_ok (l := b :: r) (by simp)
    unfold minI
    split
    · rename_i h
      refine ⟨List.mem_cons_self .., fun x hx => ?_⟩
      rcases List.mem_cons.mp hx with rfl | hx
      · exact Int.le_refl _
      · exact Int.le_trans h (ih.2 x hx)
    · rename_i h
      refine ⟨List.mem_cons_of_mem _ ih.1, fun x hx => ?_⟩
      rcases List.mem_cons.mp hx with rfl | hx
      · omega
      · exact ih.2 x hx
def needF (p : Pb) : Nat → Nat → Int
  | 0, m => p.rows m
  | d + 1, m => if p.nxt m = [] then p.rows m else if p.rows m > minI ((p.nxt m).map fun k => needF p d (m ||| bit p.n k)) then p.rows m else minI ((p.nxt m).map fun k => needF p d (m ||| bit p.n k))
def needN (p : Pb) (m : Nat) : Int := needF p (p.n - cnt p.n m) m
theorem needs_ok {p : Pb} {j m : Nat} (h : SR p j m) : Needs p (needN p) m := by
  constructor
  · intro e
    unfold needN
    cases p.n - cnt p.n m with
    | zero => rfl
    | succ d => unfold needF; rw [if_pos e]
  · intro e
    obtain ⟨k, hk⟩ := List.exists_mem_of_ne_nil _ e
    have h1 := (SR.step h hk).le
    have h2 := h.cnt
    have hm : (p.nxt m).map (fun k => needN p (m ||| bit p.n k)) = (p.nxt m).map fun k => needF p (p.n - cnt p.n m - 1) (m ||| bit p.n k) := by
      refine List.map_congr_left fun k hk => ?_
      unfold needN
      obtain ⟨q1, q2, _⟩ := mem_nxt.mp hk
      rw [length_filter_or q1 q2, Nat.sub_add_eq]
    refine ⟨minI ((p.nxt m).map fun k => needN p (m ||| bit p.n k)), minI_ok (by simpa using e), ?_⟩
    rw [hm]
    unfold needN
    obtain ⟨d, hd⟩ : ∃ d, p.n - cnt p.n m = d + 1 := ⟨p.n - cnt p.n m - 1, by omega⟩
    rw [hd, Nat.add_sub_cancel]
    conv => lhs; unfold needF
    rw [if_neg e]
theorem or_ne {p : Pb} {m k : Nat} (h : k ∈ p.nxt m) : m ||| bit p.n k ≠ m := fun z => by
  obtain ⟨h1, h2, _⟩ := mem_nxt.mp h
  have := has_or (m := m) h1 h1
  rw [z, h2] at this
  simp at this
theorem shp_nats (l : List Nat) : SeqAt.shaped (.list (l.map fun k : Nat => PyData.int (k : Nat))) = true := (Shp.list (n := 0) fun d hd => by
  obtain ⟨i, _, rfl⟩ := List.mem_map.mp hd
  exact Shp.int _).ok (by decide)
theorem dp_nats {K : PySem.W.Frag} {H : Hp} : ∀ l : List Nat, DpAll K H (natsV l) (l.map fun k : Nat => PyData.int (k : Nat))
  | [] => .nil
  | x :: r => .cons (.int _) (dp_nats r)
theorem eqv_nilL (ds : List PyData) : PyData.eqv (.list ds) (.list []) = ds.isEmpty := by
  cases ds with
  | nil => decide +kernel
  | cons d r => simp [PyData.eqv, PyData.eqvAll]
/-- the test whether a list of numbers is not empty -/
theorem ne_nats {K : PySem.W.Frag} {H : Hp} {a b : Addr} {l : List Nat} {Q : VK} (h1 : SqL K H a (natsV l)) (h2 : H b = some (.lst [])) (q : Q (.bl (!l.isEmpty)) H) : rNeD K (.ref a) (.ref b) H Q := by
  refine ⟨_, _, .lst h1 (dp_nats l), .lst (SqL.of h2) .nil, shp_nats l, shp_nil, ?_⟩
  rw [eqv_nilL]
  cases l <;> exact q
section
variable {P : Program} {w : World} {K : PySem.W.Frag} {mg : Str → Option Value} {base : Heap}
def Kn (p : Pb) (kvs : List (Key × V)) (S : Nat → Prop) : Prop := ∀ m, S m → valV kvs (Sum.inl ((m : Nat) : Int)) = some (.int (needN p m))
def sp_needs (K : PySem.W.Frag) : Sp := fun vs H Q _ => ∃ g p, vs = [.ref g] ∧ GrAt K H g p ∧ p.Ok ∧ p.n ≤ 6 ∧ ∀ H' d kvs, Same H H' → H d = none → H' d = some (.dK kvs) → Kn p kvs (fun m => ∃ j, SR p j m) → Q (.ref d) H'
theorem sc_Ground_needs : FnScope ["self", "found", "layer", "standing", "steps", "least", "k"] ["self"] (defScope sGround_needs) := ⟨rfl, rfl, rfl, by decide +kernel, rfl, by decide +kernel, by decide +kernel⟩
theorem ok_Ground_needs (T : Tx K mg) : C8.Met P w K mg base 3 (ga K "Ground") "needs" (sp_needs K) [] := by
  refine met_of T.cl_Ground T.m_Ground_needs T.f_Ground_needs sc_Ground_needs (fun _ _ _ _ _ _ us hl => match us, hl with | [_], _ => rfl) (fun vs H Q E h => ?_) (fun cdv A outer s H vs Q E hr h => ?_)
  · obtain ⟨g, p, rfl, _⟩ := h
    rfl
  · obtain ⟨g, p, rfl, hg, ok, hn, k⟩ := h
    have nd := sc_Ground_needs.nd
    have hu := hu_of hr
    refine ⟨_, (pss_cons (ps_set (i := 1) nd rfl (Or.inr rfl) pe_dnewK)
      (pss_cons (ps_for PassesOwn.never rfl (pi_list (pe_revL (C8.pe_mt0 (ok_Ground_layers T) hr (by decide) (pv 0)))) (pg_name (i := 2) nd rfl (Or.inl rfl))
      (pss_one (ps_for PassesOwn.never rfl (pi_list (pv 2)) (pg_name (i := 3) nd rfl (Or.inr rfl))
      (pss_cons (ps_dput hu (pv 1) (pv 3) (C8.pe_mt (ok_Ground_rows_at T) hr (by decide) (pv 0) (pa_cons (pv 3) pa_nil)) rfl)
      (pss_cons (ps_set (i := 4) nd rfl (Or.inl rfl) (C8.pe_mt (ok_Ground_next_steps T) hr (by decide) (pv 0) (pa_cons (pv 3) pa_nil)))
      (pss_one (ps_if (pt_cmpR (op_neD hr.units) (pv 4) (pe_lst pa_nil) (nomark _)) (pss_cons (ps_set (i := 5) nd rfl (Or.inl rfl) (pe_callB (cr_min rfl) (by rfl) T.z_min (by decide +kernel) (pa_cons (pe_lc (own := [("k", 6)]) rfl nd (pi_list (pv 4)) (blkOk_by (by kernel_rfl)) (fun _ _ _ _ _ => (pg_name (i := 6) nd rfl (Or.inl rfl))) (fun _ _ _ _ _ => pts_nil) (fun _ _ _ _ _ => (pe_callTy call_int1 (by rfl) T.z_int (by decide +kernel) (pa_cons (pe_dget hu (pv 1) (pe_op op_or (pv 3) (pe_ix (show IxR _ (rIxL K) from ix_list) (show PE _ _ (tFld K (tVar 0) "bits") from pe_fld (pv 0) rfl) (pv 6) (fun _ _ => rfl))) (fun _ _ => rfl)) pa_nil)))) pa_nil)))
      (pss_one (ps_dput hu (pv 1) (pv 3) (pe_callB (call_max2 rfl) (by rfl) T.z_max (by decide +kernel) (pa_cons (pe_callTy call_int1 (by rfl) T.z_int (by decide +kernel) (pa_cons (pv 5) pa_nil)) (pa_cons (pe_callTy call_int1 (by rfl) T.z_int (by decide +kernel) (pa_cons (pe_dget hu (pv 1) (pv 3) (fun _ _ => rfl)) pa_nil)) pa_nil))) rfl))) pss_nil)))))))
      (pss_one (ps_ret (pv 1))))), ?_⟩
    obtain ⟨dx, lg, lb, la, g1, g2, g3, g4⟩ := hg.ex
    have hpow : 2 ^ p.n ≤ 2 ^ 6 := Nat.pow_le_pow_right (by decide) hn
    walk_at "nf"
    unfold L2.tDNewK
    intro D hD
    have e0 : Same H (upd H D (.dK [])) := (Same.refl _).new hD
    refine ⟨_, rfl, g, dx, _, rfl, e0 _ _ g1, by rfl, g, p, rfl, Same.gr e0 hg, ok, hn, fun H1 l as e1 hl0 hl hal hla => ?_⟩
    have h1D : H1 D = some (.dK []) := e1 _ _ upd_same
    have e01 := e0.trans e1
    refine ⟨l, _, rfl, SqL.of hl, fun R hR => ?_⟩
    rw [← List.map_reverse] at *
    have eR : Same H1 (upd H1 R (.lst (as.reverse.map V.ref))) := (Same.refl _).new hR
    have hRD : R ≠ D := (ne_of_none h1D hR).symm
    refine ⟨R, rfl, ⟨_, SqL.of upd_same⟩, ?_⟩
    have hH2 : upd H1 R (.lst (as.reverse.map V.ref)) R = some (.lst (as.reverse.map V.ref)) := upd_same
    generalize upd H1 R (.lst (as.reverse.map V.ref)) = H2 at eR hH2
    have e02 := e01.trans eR
    have h2D := eR _ _ h1D
    have hla2 : LaysAt H2 as p := fun j a hj => let ⟨l, q1, q2⟩ := hla j a hj; ⟨l, eR _ _ q1, q2⟩
    refine for_it (walk_list (xs := as.reverse.map V.ref)) (fun t σ H' => ∃ (o2 o3 o4 o5 : Option V) (kvs : List (Key × V)), σ = [some (.ref g), some (.ref D), o2, o3, o4, o5, none] ∧ Same H H' ∧ But D H2 H' ∧ H' D = some (.dK kvs) ∧ kvs.length ≤ t * 128 ∧ Kn p kvs (fun m => ∃ j, SR p j m ∧ p.n < j + t))
      ⟨none, none, none, none, [], rfl, e02, fun b o _ h => h, h2D, Nat.zero_le _, fun m ⟨j, h1, h2⟩ => by have := h1.le; omega⟩ (fun t σ H' _ ⟨_, _, _, _, _, _, _, b, _⟩ => SqL.of (b _ _ hRD hH2)) ?_ ?_
    · rintro t v σ H3 H4 ht ⟨o2, o3, o4, o5, kvs, rfl, e3, b3, h3D, hkl, hkn⟩ ⟨rfl, hv⟩
      rw [List.length_map, List.length_reverse, hal] at ht
      obtain ⟨ai, hai, rfl⟩ := Option.map_eq_some_iff.mp ((List.getElem?_map ..).symm.trans hv)
      rw [List.getElem?_reverse (by omega), hal] at hai
      have hidx : p.n + 1 - 1 - t = p.n - t := by omega
      rw [hidx] at hai
      obtain ⟨li, hli, hlay⟩ := hla2 _ ai hai
      have haiD : ai ≠ D := fun z => by rw [z, h2D] at hli; cases hli
      have hlen := hlay.len
      walk_at "nf"
      refine ⟨_, rfl, ai, rfl, ⟨_, SqL.of (b3 _ _ haiD hli)⟩, ?_⟩
      refine for_it (walk_list (xs := natsV li)) (fun s σ H' => ∃ (o3 o4 o5 : Option V) (kvs : List (Key × V)), σ = [some (.ref g), some (.ref D), some (.ref ai), o3, o4, o5, none] ∧ Same H H' ∧ But D H2 H' ∧ H' D = some (.dK kvs) ∧ kvs.length ≤ t * 128 + s * 2 ∧ Kn p kvs (fun m => (∃ j, SR p j m ∧ p.n < j + t) ∨ m ∈ li.take s))
        ⟨o3, o4, o5, kvs, rfl, e3, b3, h3D, by omega, fun m h => by
          rcases h with h | h
          · exact hkn m h
          · simp at h⟩ (fun s σ H' _ ⟨_, _, _, _, _, _, b, _⟩ => SqL.of (b _ _ haiD hli)) ?_ ?_
      · rintro s v σ H5 H6 hs ⟨q3, q4, q5, kv, rfl, e5, b5, h5D, hkl5, hkn5⟩ ⟨rfl, hv⟩
        obtain ⟨m, hm, rfl⟩ := get_natsV hv
        have hmS := (hlay.mem m).mp (List.mem_of_getElem? hm)
        rw [natsV_len] at hs
        walk_at "nf"
        unfold L2.sDPut
        refine ⟨_, rfl, g, dx, _, rfl, e5 _ _ g1, by rfl, _, rfl, g, p, m, rfl, Same.gr e5 hg, by omega, fun H7 e7 => ?_⟩
        refine ⟨_, rfl, _, rfl, D, _, rfl, DPut.k (k := Sum.inl ((m : Nat) : Int)) (e7 _ _ h5D) (lt_size (by omega)), ?_⟩
        have e8 : Same H (upd H7 D (.dK (putK kv (Sum.inl ((m : Nat) : Int)) (.int (p.rows m))))) := (e5.trans e7).mut hD
        have b8 : But D H2 (upd H7 D (.dK (putK kv (Sum.inl ((m : Nat) : Int)) (.int (p.rows m))))) := (b5.trans (Same.but e7)).trans But.put
        have h8D : upd H7 D (.dK (putK kv (Sum.inl ((m : Nat) : Int)) (.int (p.rows m)))) D = some (.dK (putK kv (Sum.inl ((m : Nat) : Int)) (.int (p.rows m)))) := upd_same
        have hk1 : ∀ x : Nat, valV (putK kv (Sum.inl ((m : Nat) : Int)) (.int (p.rows m))) (Sum.inl ((x : Nat) : Int)) = if x = m then some (.int (p.rows m)) else valV kv (Sum.inl ((x : Nat) : Int)) := fun x => by
          rw [valV_put]
          by_cases h : x = m
          · rw [if_pos h, if_pos (by rw [h])]
          · rw [if_neg h, if_neg (fun z => h (Int.ofNat_inj.mp (Sum.inl.inj z)))]
        have hkl8 : (putK kv (Sum.inl ((m : Nat) : Int)) (.int (p.rows m))).length ≤ kv.length + 1 := length_putK ..
        generalize putK kv (Sum.inl ((m : Nat) : Int)) (.int (p.rows m)) = kv1 at e8 b8 h8D hk1 hkl8
        generalize upd H7 D (.dK kv1) = H8 at e8 b8 h8D
        refine ⟨_, rfl, g, dx, _, rfl, e8 _ _ g1, by rfl, _, rfl, g, p, m, rfl, Same.gr e8 hg, ok, by omega, fun H9 L e9 hL0 hL => ?_⟩
        refine ⟨_, rfl, Nat.zero_le _, fun q hq => ?_⟩
        have e10 : Same H9 (upd H9 q (.lst [])) := (Same.refl _).new hq
        refine ne_nats (SqL.of (e10 _ _ hL)) upd_same ⟨_, rfl, ?_⟩
        generalize upd H9 q (.lst []) = HA at e10
        have eA := e8.trans (e9.trans e10)
        have bA := b8.trans (Same.but (e9.trans e10))
        have hAD := (e9.trans e10) _ _ h8D
        have hAL := e10 _ _ hL
        by_cases hx : p.nxt m = []
        · rw [hx]
          refine iteF ⟨_, _, _, kv1, rfl, eA, bA, hAD, by omega, fun x hxx => ?_⟩
          rw [hk1]
          by_cases h : x = m
          · rw [if_pos h, h, (needs_ok hmS).nil hx]
          · rw [if_neg h]
            refine hkn5 x ?_
            rcases hxx with hxx | hxx
            · exact .inl hxx
            · rw [List.take_succ, hm] at hxx
              rcases List.mem_append.mp hxx with hxx | hxx
              · exact .inr hxx
              · exact absurd (by simpa using hxx) h
        · have hne : (!(p.nxt m).isEmpty) = true := by
            cases hh : p.nxt m with
            | nil => exact absurd hh hx
            | cons a r => rfl
          rw [hne]
          obtain ⟨l0, hl0, hNm⟩ := (needs_ok hmS).cons hx
          have hnl := nxt_len p m
          refine iteT ⟨_, rfl, L, rfl, ⟨_, SqL.of hAL⟩, fun D2 hD2 => ?_⟩
          refine lc_go (walk_list (xs := natsV (p.nxt m))) hD2 (fun i acc _ => acc = ((p.nxt m).take i).map fun k => V.int (needN p (m ||| bit p.n k))) (fun H6 e6 => SqL.of (e6 _ _ hAL)) rfl ?_ ?_
          · rintro j v HB HC acc hj eB hDD hlen2 hacc ⟨rfl, hv⟩
            obtain ⟨kk, hkk, rfl⟩ := get_natsV hv
            have hkm := List.mem_of_getElem? hkk
            have hkn : kk < p.n := (mem_nxt.mp hkm).1
            rw [natsV_len] at hj
            have eB2 := eA.trans eB
            walk_at "nf"
            refine ⟨rfl, ?_⟩
            rw [if_pos rfl]
            refine ⟨_, rfl, _, rfl, _, rfl, g, _, dx, _, _, rfl, eB2 _ _ g1, T.cl_Ground, T.n_Ground_bits, by rfl, _, rfl, lb, _, _, _, rfl, rfl, SqL.of (eB2 _ _ g3), atI_nat (rng_get hkn), _, _, rfl, rfl, ?_⟩
            dsimp only
            rw [bitOr_nat]
            have hval : valV kv1 (Sum.inl ((m ||| bit p.n kk : Nat) : Int)) = some (.int (needN p (m ||| bit p.n kk))) := by
              rw [hk1, if_neg (or_ne hkm)]
              exact hkn5 _ (.inl ⟨_, .step hmS hkm, by omega⟩)
            have hdg := DGet.k (k := Sum.inl ((m ||| bit p.n kk : Nat) : Int)) (eB _ _ hAD)
            rw [hval] at hdg
            refine ⟨D, _, rfl, hdg, .inl ⟨_, rfl, lc_put hD2 hDD eB hlen2 (by omega) id ?_⟩⟩
            rw [hacc, List.take_succ, hkk, List.map_append]
            rfl
          · rintro HB acc eB hDD hacc
            rw [natsV_len, List.take_length] at hacc
            subst hacc
            refine ⟨D2, (p.nxt m).map fun k => needN p (m ||| bit p.n k), rfl, ?_, ?_, fun least h1 h2 => ?_⟩
            · rw [List.map_map]
              exact SqL.of hDD
            · rw [List.length_map]
              exact List.length_pos_iff.mpr hx
            have hB := eB _ _ hAD
            have hdg := DGet.k (k := Sum.inl ((m : Nat) : Int)) hB
            rw [hk1, if_pos rfl] at hdg
            have hml := IsMin.uniq ⟨h1, h2⟩ hl0
            dsimp only [L2.tCB, L2.tCons, L2.tNil, L2.tVar, L2.tDGet]
            refine ⟨_, rfl, .inl ⟨_, rfl, _, rfl, _, rfl, D, _, rfl, hdg, .inl ⟨_, rfl, _, _, rfl, ?_⟩⟩⟩
            refine ⟨_, rfl, _, rfl, D, _, rfl, DPut.k (k := Sum.inl ((m : Nat) : Int)) hB (lt_size (by omega)), _, _, _, _, rfl, (eA.trans eB).mut hD, (bA.trans (Same.but eB)).trans But.put, upd_same, ?_, fun x hxx => ?_⟩
            · have : (putK kv1 (Sum.inl ((m : Nat) : Int)) (.int (if p.rows m > least then p.rows m else least))).length ≤ kv1.length + 1 := length_putK ..
              omega
            · rw [valV_put]
              by_cases h : x = m
              · rw [if_pos (by rw [h]), h, hNm, hml]
              · rw [if_neg (fun z => h (Int.ofNat_inj.mp (Sum.inl.inj z))), hk1, if_neg h]
                refine hkn5 x ?_
                rcases hxx with hxx | hxx
                · exact .inl hxx
                · rw [List.take_succ, hm] at hxx
                  rcases List.mem_append.mp hxx with hxx | hxx
                  · exact .inr hxx
                  · exact absurd (by simpa using hxx) h
      · rintro σ H5 ⟨q3, q4, q5, kv, rfl, e5, b5, h5D, hkl5, hkn5⟩
        rw [natsV_len] at hkl5
        rw [natsV_len, List.take_length] at hkn5
        refine ⟨_, _, _, _, kv, rfl, e5, b5, h5D, by omega, fun m ⟨j, h1, h2⟩ => hkn5 m ?_⟩
        by_cases hj : p.n < j + t
        · exact .inl ⟨j, h1, hj⟩
        · refine .inr ((hlay.mem m).mpr ?_)
          have : j = p.n - t := by omega
          rw [← this]; exact h1
    · rintro σ H3 ⟨o2, o3, o4, o5, kvs, rfl, e3, b3, h3D, hkl, hkn⟩
      rw [List.length_map, List.length_reverse, hal] at hkn
      exact ⟨_, rfl, k _ D kvs e3 hD h3D fun m ⟨j, h1⟩ => hkn m ⟨j, h1, by omega⟩⟩
end
end NS
set_option Elab.async false
set_option linter.all false
set_option maxRecDepth 100000
set_option maxHeartbeats 4000000
/-! Grounds: what is reached. -/
namespace NS
open PySem PySem.Spec PyProof.Rows L2 He
local macro_rules | `(tactic| walk_at "nf") => `(tactic| dsimp only [L2.tNext, L2.tSeq, L2.tDrop, L2.tRet, L2.tRetN, L2.tIfS, L2.tAsg, L2.gName, L2.gCons, L2.gNil, L2.gTup, L2.tOp, L2.tUn, L2.tTest, L2.tChain, L2.tB, L2.tAnd, L2.tOr, L2.tNot, L2.tAndV, L2.tOrV, L2.tNotV, L2.tIf, L2.tCB, L2.tNil, L2.tCons, L2.tTup, L2.tLst, L2.tFld, L2.sFld, L2.tCall, L2.tMeth, L2.tMake, L2.tBM, L2.tBM0, L2.tM1, L2.tM0, L2.tSl, L2.tPart, L2.tNoPart, L2.tPar, L2.tVar, L2.tC, L2.cxOf, L2.tYes, C8.tCut])
/-! ### the mirror: the lists of a length that are reached -/
noncomputable def rl (p : Pb) (top : Int) (j : Nat) : List (List Nat) := dueL p top (lay p.n j)
open Classical in
theorem mem_rl {p : Pb} {top : Int} {j : Nat} {s : List Nat} : s ∈ rl p top j ↔ (s.length = j ∧ Asc p.n 0 s) ∧ Reach p top (val p.n s) := by
  unfold rl dueL
  rw [List.mem_filter, mem_lay, decide_eq_true_eq]
open Classical in
theorem due_flat (p : Pb) (top : Int) : due p top = (List.range (p.n + 1)).flatMap (rl p top) := by
  unfold due dueL subs
  rw [List.filter_flatMap]
  rfl
open Classical in
theorem rl_zero {p : Pb} {top : Int} : rl p top 0 = if p.begun ≤ top then [[]] else [] := by
  have h0 : Reach p top 0 ↔ p.begun ≤ top := ⟨fun h => by have := h.rows; rwa [rows_zero] at this, .zero⟩
  have hv : val p.n [] = 0 := rfl
  unfold rl dueL lay
  rw [List.filter_cons, List.filter_nil, hv]
  by_cases h : p.begun ≤ top
  · rw [if_pos h, if_pos (decide_eq_true (h0.mpr h))]
  · rw [if_neg h, if_neg (fun z => h (h0.mp (of_decide_eq_true z)))]
theorem rl_next {p : Pb} {top : Int} (ok : p.Ok) {j : Nat} (h : rl p top j = []) : rl p top (j + 1) = [] := by
  rw [List.eq_nil_iff_forall_not_mem]
  intro s hs
  obtain ⟨⟨h1, h2⟩, h3⟩ := mem_rl.mp hs
  obtain ⟨_, _, h4⟩ := (reach_list ok h2).mp h3
  rcases h4 with rfl | ⟨k, hk, hr⟩
  · cases h1
  · have hl := filter_len_lt h2.nodup hk
    have : (s.filter fun j => decide (j ≠ k)) ∈ rl p top j := mem_rl.mpr ⟨⟨by omega, asc_filter _ h2⟩, hr⟩
    rw [h] at this
    cases this
theorem due_to {p : Pb} {top : Int} (ok : p.Ok) {j : Nat} (hj : j ≤ p.n + 1) (h : rl p top j = []) : due p top = (List.range j).flatMap (rl p top) := by
  have hz : ∀ d, rl p top (j + d) = [] := by
    intro d
    induction d with
    | zero => exact h
    | succ d ih => exact rl_next ok ih
  rw [due_flat]
  obtain ⟨d, hd⟩ : ∃ d, p.n + 1 = j + d := ⟨p.n + 1 - j, by omega⟩
  rw [hd]
  clear hd hj
  induction d with
  | zero => rfl
  | succ d ih =>
    rw [← Nat.add_assoc, List.range_succ, List.flatMap_append, ih, List.flatMap_cons, hz d]
    simp
theorem rl_over {p : Pb} {top : Int} : rl p top (p.n + 1) = [] := by
  unfold rl dueL
  rw [lay_nil (Nat.lt_succ_self _)]
  rfl
theorem rl_desc {p : Pb} {top : Int} (j : Nat) : ((rl p top j).map (val p.n)).Pairwise (· > ·) := by
  have h := pw_val (n := p.n) j
  rw [List.pairwise_map] at h ⊢
  exact List.Pairwise.filter _ h
theorem rl_step {p : Pb} {top : Int} {j y : Nat} : y ∈ (rl p top (j + 1)).map (val p.n) ↔ ∃ m ∈ (rl p top j).map (val p.n), y ∈ p.within top m := by
  constructor
  · intro h
    obtain ⟨s, hs, rfl⟩ := List.mem_map.mp h
    obtain ⟨⟨h1, h2⟩, h3⟩ := mem_rl.mp hs
    generalize e : val p.n s = x at h3
    have hc : cnt p.n x = j + 1 := by
      unfold cnt
      rw [← e, nums_val h2, h1]
    cases h3 with
    | zero _ =>
      unfold cnt at hc
      rw [nums_zero] at hc
      cases hc
    | @step m k hm hk hr =>
      obtain ⟨k1, k2, _⟩ := mem_nxt.mp hk
      rw [length_filter_or k1 k2] at hc
      refine ⟨m, List.mem_map.mpr ⟨nums p.n m, mem_rl.mpr ⟨⟨by unfold cnt at hc; omega, nums_asc _ _⟩, ?_⟩, val_nums hm.lt⟩, mem_within.mpr ⟨k, hk, rfl, hr⟩⟩
      rw [val_nums hm.lt]
      exact hm
  · rintro ⟨m, hm, hy⟩
    obtain ⟨s, hs, rfl⟩ := List.mem_map.mp hm
    obtain ⟨⟨h1, h2⟩, h3⟩ := mem_rl.mp hs
    obtain ⟨k, hk, rfl, hr⟩ := mem_within.mp hy
    obtain ⟨k1, k2, _⟩ := mem_nxt.mp hk
    have hR := Reach.step h3 hk hr
    refine List.mem_map.mpr ⟨nums p.n (val p.n s ||| bit p.n k), mem_rl.mpr ⟨⟨?_, nums_asc _ _⟩, ?_⟩, val_nums hR.lt⟩
    · have := length_filter_or (m := val p.n s) k1 k2
      unfold cnt at this
      rw [this, nums_val h2, h1]
    · rw [val_nums hR.lt]
      exact hR
/-- a tuple of numbers -/
def TupP (H : Hp) (v : V) (s : List Nat) : Prop := ∃ t, v = .ref t ∧ H t = some (.tup (natsV s))
theorem Same.tupp {H H' : Hp} {v : V} {s : List Nat} (e : Same H H') (h : TupP H v s) : TupP H' v s := let ⟨t, a, b⟩ := h; ⟨t, a, e _ _ b⟩
theorem tup_put {H : Hp} {D : Addr} {o o' : HO} {v : V} {s : List Nat} (hD : H D = some o) (ho : ∀ xs, o ≠ .tup xs) (h : TupP H v s) : TupP (upd H D o') v s := by
  obtain ⟨t, e, ht⟩ := h
  exact ⟨t, e, (upd_ne (fun z => by rw [z, hD] at ht; exact ho _ (Option.some.inj ht))).trans ht⟩
/-- sorted downward, no one twice -/
theorem desc_of {ns : List Int} {cur L : List Nat} (hp : ns.Perm (cur.map fun k : Nat => (k : Int))) (ho : ns.Pairwise (· ≥ ·)) (hn : cur.Nodup) (hL : L.Pairwise (· > ·)) (hm : ∀ y, y ∈ cur ↔ y ∈ L) : ns.map V.int = natsV L := by
  have h1 : ∃ l : List Nat, ns = l.map fun k : Nat => (k : Int) := by
    have hall : ∀ x ∈ ns, ∃ k : Nat, x = (k : Int) := fun x hx => by
      obtain ⟨k, _, e⟩ := List.mem_map.mp (hp.mem_iff.mp hx)
      exact ⟨k, e.symm⟩
    clear hp ho
    induction ns with
    | nil => exact ⟨[], rfl⟩
    | cons x r ih =>
      obtain ⟨l, hl⟩ := ih fun y hy => hall y (List.mem_cons_of_mem _ hy)
      obtain ⟨k, hk⟩ := hall x (List.mem_cons_self ..)
      exact ⟨k :: l, by rw [hk, hl]; rfl⟩
  obtain ⟨l, rfl⟩ := h1
  have hnd : (l.map fun k : Nat => (k : Int)).Nodup := hp.nodup_iff.mpr (by
    unfold List.Nodup
    rw [List.pairwise_map]
    exact hn.imp fun h z => h (Int.ofNat_inj.mp z))
  have hgt : l.Pairwise (· > ·) := by
    rw [List.pairwise_map] at ho
    unfold List.Nodup at hnd
    rw [List.pairwise_map] at hnd
    refine (ho.and hnd).imp fun {a b} h => ?_
    obtain ⟨h1, h2⟩ := h
    have : a ≠ b := fun z => h2 (by rw [z])
    omega
  have hl : l = L := desc_ext hgt hL fun k => by
    rw [← hm]
    have := hp.mem_iff (a := ((k : Nat) : Int))
    rw [List.mem_map, List.mem_map] at this
    constructor
    · intro hk
      obtain ⟨a, ha, e⟩ := this.mp ⟨k, hk, rfl⟩
      rwa [← Int.ofNat_inj.mp e]
    · intro hk
      obtain ⟨a, ha, e⟩ := this.mpr ⟨k, hk, rfl⟩
      rwa [← Int.ofNat_inj.mp e]
  rw [hl]
  unfold natsV
  rw [List.map_map]
  rfl
theorem rl_len {p : Pb} {top : Int} (j : Nat) : (rl p top j).length ≤ 2 ^ p.n := by
  have h := nodup_lt (n := 2 ^ p.n) ((rl_desc (p := p) (top := top) j).imp fun {a b} (h : a > b) => Nat.ne_of_gt h) fun x hx => by
    obtain ⟨s, hs, rfl⟩ := List.mem_map.mp hx
    exact (mem_rl.mp hs).2.lt
  rwa [List.length_map] at h
theorem paired_app {α β : Type} {R : α → β → Prop} {xs : List α} {ys : List β} {xs' : List α} {ys' : List β} (h : Paired R xs ys) (h' : Paired R xs' ys') : Paired R (xs ++ xs') (ys ++ ys') := by
  induction h with
  | nil => exact h'
  | cons h _ ih => exact .cons h ih
section
variable {P : Program} {w : World} {K : PySem.W.Frag} {mg : Str → Option Value} {base : Heap}
def sp_reached (K : PySem.W.Frag) : Sp := fun vs H Q _ => ∃ g p, ∃ top : Int, vs = [.ref g, .int top] ∧ GrAt K H g p ∧ p.Ok ∧ p.n ≤ 6 ∧ ∀ H' t vs', Same H H' → H t = none → H' t = some (.tup vs') → Paired (TupP H') vs' (due p top) → Q (.ref t) H'
theorem sc_Ground_reached : FnScope ["self", "most", "found", "layer", "fresh", "standing", "later"] ["self", "most"] (defScope sGround_reached) := ⟨rfl, rfl, rfl, by decide +kernel, rfl, by decide +kernel, by decide +kernel⟩
theorem ok_Ground_reached (T : Tx K mg) : C8.Met P w K mg base 4 (ga K "Ground") "reached" (sp_reached K) [] := by
  refine met_of T.cl_Ground T.m_Ground_reached T.f_Ground_reached sc_Ground_reached (fun _ _ _ _ _ _ us hl => match us, hl with | [_, _], _ => rfl) (fun vs H Q E h => ?_) (fun cdv A outer s H vs Q E hr h => ?_)
  · obtain ⟨g, p, top, rfl, _⟩ := h
    rfl
  · obtain ⟨g, p, top, rfl, hg, ok, hn, k⟩ := h
    have nd := sc_Ground_reached.nd
    have hu := hu_of hr
    refine ⟨_, (pss_cons (ps_set (i := 2) nd rfl (Or.inl rfl) (pe_lst pa_nil))
      (C8.pss_cut (ps_set (i := 3) nd rfl (Or.inl rfl) (pe_ifExp (pt_cmpR op_le (pe_fld (pv 0) rfl) (pv 1) (nomark _)) (pe_lst (pa_cons pe_int pa_nil)) (pe_lst pa_nil)))
      (pss_cons (ps_while PassesOwn.never (pt_cmpR (op_neD hr.units) (pv 3) (pe_lst pa_nil) (nomark _)) (pss_cons (ps_expr (pe_bm PySem.F.plainAttrs_list PySem.F.slot_list_extend PySem.F.type_list_extend mt_extend (pv 2) (pa_cons (pe_lc (own := [("standing", 5)]) rfl nd (pi_list (pv 3)) (blkOk_by (by kernel_rfl)) (fun _ _ _ _ _ => (pg_name (i := 5) nd rfl (Or.inl rfl))) (fun _ _ _ _ _ => pts_nil) (fun _ _ _ _ _ => (C8.pe_mt (ok_Ground_numbers_of T) hr (by decide) (pv 0) (pa_cons (pv 5) pa_nil)))) pa_nil)))
      (pss_cons (ps_set (i := 4) nd rfl (Or.inl rfl) pe_dnewK)
      (pss_cons (ps_for PassesOwn.never rfl (pi_list (pv 3)) (pg_name (i := 5) nd rfl (Or.inl rfl))
      (pss_one (ps_for PassesOwn.never rfl (pi_list (C8.pe_mt (ok_Ground_steps_within T) hr (by decide) (pv 0) (pa_cons (pv 5) (pa_cons (pv 1) pa_nil)))) (pg_name (i := 6) nd rfl (Or.inl rfl))
      (pss_one (ps_dput hu (pv 4) (pv 6) pe_bl rfl)))))
      (pss_one (ps_set (i := 3) nd rfl (Or.inl rfl) (pe_callBK (cr_sortedRev (b := true)) (by rfl) T.z_sorted (by decide +kernel) (pa_cons (pe_lock (pe_lc (own := [("standing", 5)]) rfl nd (pi_keys (pv 4)) (blkOk_by (by kernel_rfl)) (fun _ _ _ _ _ => (pg_name (i := 5) nd rfl (Or.inl rfl))) (fun _ _ _ _ _ => pts_nil) (fun _ _ _ _ _ => (pe_callTy call_int1 (by rfl) T.z_int (by decide +kernel) (pa_cons (pv 5) pa_nil))))) pa_nil) (pk_cons pe_bl pk_nil))))))))
      (pss_one (ps_ret (pe_callTy call_tuple_of (by rfl) T.z_tuple (by decide +kernel) (pa_cons (pv 2) pa_nil))))))), ?_⟩
    obtain ⟨dx, lg, lb, la, g1, g2, g3, g4⟩ := hg.ex
    have hpow : 2 ^ p.n ≤ 2 ^ 6 := Nat.pow_le_pow_right (by decide) hn
    walk_at "nf"
    refine ⟨Nat.zero_le _, fun F hF => ?_⟩
    have e0 : Same H (upd H F (.lst [])) := (Same.refl _).new hF
    have h0F : upd H F (.lst []) F = some (.lst []) := upd_same
    generalize upd H F (.lst []) = H1 at e0 h0F
    refine ⟨fun σ H' => ∃ Y, σ = [some (.ref g), some (.int top), some (.ref F), some (.ref Y), none, none, none] ∧ Same H1 H' ∧ H1 Y = none ∧ H' Y = some (.lst (natsV ((rl p top 0).map (val p.n)))), ?_, ?_⟩
    · refine ⟨_, rfl, g, _, dx, _, _, rfl, e0 _ _ g1, T.cl_Ground, T.n_Ground_begun, by rfl, _, rfl, _, _, rfl, rfl, _, rfl, ?_⟩
      rw [rl_zero]
      by_cases h : p.begun ≤ top
      · rw [decide_eq_true h, if_pos h]
        exact iteT ⟨(by show 1 ≤ sizeLine; decide), fun Y hY => ⟨Y, rfl, (Same.refl _).new hY, hY, upd_same⟩⟩
      · rw [decide_eq_false h, if_neg h]
        exact iteF ⟨Nat.zero_le _, fun Y hY => ⟨Y, rfl, (Same.refl _).new hY, hY, upd_same⟩⟩
    · rintro σ H2 ⟨Y, rfl, e2, hY1, hY2⟩
      refine ⟨fun m σ H' => ∃ (j : Nat) (Y : Addr) (vs : List V) (o4 o5 o6 : Option V), m = p.n + 1 - j ∧ j ≤ p.n + 1 ∧ σ = [some (.ref g), some (.int top), some (.ref F), some (.ref Y), o4, o5, o6] ∧ Same H H' ∧ H' F = some (.lst vs) ∧ vs.length ≤ j * 64 ∧ Paired (TupP H') vs ((List.range j).flatMap (rl p top)) ∧
          H' Y = some (.lst (natsV ((rl p top j).map (val p.n)))) ∧ Y ≠ F,
        ⟨_, 0, Y, [], none, none, none, rfl, Nat.zero_le _, rfl, e0.trans e2, e2 _ _ h0F, Nat.zero_le _, .nil, hY2, (ne_of_none h0F hY1).symm⟩, ?_⟩
      rintro m σ H3 ⟨j, Y, vs, o4, o5, o6, rfl, hj, rfl, e3, h3F, hvl, hvp, h3Y, hYF⟩
      walk_at "nf"
      refine ⟨_, rfl, Nat.zero_le _, fun q hq => ne_nats (Same.sql ((Same.refl _).new hq) (SqL.of h3Y)) upd_same ⟨_, rfl, ?_⟩⟩
      have e4 : Same H3 (upd H3 q (.lst [])) := (Same.refl _).new hq
      generalize upd H3 q (.lst []) = H4 at e4
      have e04 := e3.trans e4
      by_cases hx : rl p top j = []
      · rw [hx]
        refine iteF ⟨_, rfl, F, _, rfl, .inl ⟨SqL.of (e4 _ _ h3F), fun t ht => ?_⟩⟩
        refine k _ t vs (e04.new ht) (e04.free ht) upd_same ?_
        rw [due_to ok hj hx]
        exact paired_imp (fun a b h => Same.tupp ((Same.refl _).new ht) (Same.tupp e4 h)) hvp
      · have hne : (!((rl p top j).map (val p.n)).isEmpty) = true := by
          cases hh : rl p top j with
          | nil => exact absurd hh hx
          | cons a r => rfl
        rw [hne]
        have hjn : j ≤ p.n := by
          rcases Nat.lt_or_ge p.n j with h | h
          · have : j = p.n + 1 := by omega
            rw [this] at hx
            exact absurd rl_over hx
          · exact h
        have h4F := e4 _ _ h3F
        have h4Y := e4 _ _ h3Y
        have hrl := rl_len (p := p) (top := top) j
        refine iteT ⟨fun σ' H' => ∃ m', m' < p.n + 1 - j ∧ ∃ (j : Nat) (Y : Addr) (vs : List V) (o4 o5 o6 : Option V), m' = p.n + 1 - j ∧ j ≤ p.n + 1 ∧ σ' = [some (.ref g), some (.int top), some (.ref F), some (.ref Y), o4, o5, o6] ∧ Same H H' ∧ H' F = some (.lst vs) ∧ vs.length ≤ j * 64 ∧ Paired (TupP H') vs ((List.range j).flatMap (rl p top)) ∧
          H' Y = some (.lst (natsV ((rl p top j).map (val p.n)))) ∧ Y ≠ F, fun _ _ h => h, ?_⟩
        refine ⟨_, rfl, .inl ⟨rfl, _, SqL.of h4F⟩, _, rfl, Y, rfl, ⟨_, SqL.of h4Y⟩, fun D hD => ?_⟩
        refine lc_go (walk_list (xs := natsV ((rl p top j).map (val p.n)))) hD (fun i acc H' => Paired (TupP H') acc ((rl p top j).take i)) (fun H6 e6 => SqL.of (e6 _ _ h4Y)) .nil ?_ ?_
        · rintro i v H5 H6 acc hi e5 hDD hlen hacc ⟨rfl, hv⟩
          obtain ⟨m, hm, rfl⟩ := get_natsV hv
          obtain ⟨s, hs, rfl⟩ := Option.map_eq_some_iff.mp ((List.getElem?_map ..).symm.trans hm)
          obtain ⟨⟨s1, s2⟩, s3⟩ := mem_rl.mp (List.mem_of_getElem? hs)
          rw [natsV_len, List.length_map] at hi
          walk_at "nf"
          refine ⟨rfl, ?_⟩
          rw [if_pos rfl]
          refine ⟨_, rfl, g, dx, _, rfl, (e04.trans e5) _ _ g1, by rfl, _, rfl, g, p, val p.n s, rfl, Same.gr (e04.trans e5) hg, by omega, fun H7 t e7 ht0 ht => ?_⟩
          rw [nums_val s2] at ht
          have hD7 := e7 _ _ hDD
          refine lc_put hD hD7 (e5.trans e7) hlen (by omega) (fun h => paired_imp (fun a b h => tup_put hD7 (fun xs z => by cases z) h) h) ?_
          rw [List.take_succ, hs]
          exact paired_snoc (paired_imp (fun a b h => Same.tupp e7 h) hacc) ⟨t, rfl, ht⟩
        rintro H5 acc e5 hDD hacc
        rw [natsV_len, List.length_map, List.take_length] at hacc
        have hal := hacc.length
        have h5F := e5 _ _ h4F
        refine ⟨F, D, vs, acc, rfl, rfl, h5F, hDD, le_size (by omega), ?_⟩
        have e06 : Same H (upd H5 F (.lst (vs ++ acc))) := (e04.trans e5).mut hF
        have h6F : upd H5 F (.lst (vs ++ acc)) F = some (.lst (vs ++ acc)) := upd_same
        have h6Y : upd H5 F (.lst (vs ++ acc)) Y = _ := (upd_ne hYF).trans (e5 _ _ h4Y)
        have hP6 : Paired (TupP (upd H5 F (.lst (vs ++ acc)))) (vs ++ acc) ((List.range (j + 1)).flatMap (rl p top)) := by
          rw [List.range_succ, List.flatMap_append]
          refine paired_app (paired_imp (fun a b h => tup_put h5F (fun xs z => by cases z) (Same.tupp (e4.trans e5) h)) hvp) ?_
          rw [List.flatMap_cons, List.flatMap_nil, List.append_nil]
          exact paired_imp (fun a b h => tup_put h5F (fun xs z => by cases z) h) hacc
        have hvl6 : (vs ++ acc).length ≤ (j + 1) * 64 := by rw [List.length_append]; omega
        generalize vs ++ acc = vs6 at e06 h6F h6Y hP6 hvl6
        generalize upd H5 F (.lst vs6) = H6 at e06 h6F h6Y hP6
        dsimp only [L2.tDNewK]
        intro D2 hD2
        have eD : Same H6 (upd H6 D2 (.dK [])) := (Same.refl _).new hD2
        refine ⟨_, rfl, Y, rfl, ⟨_, SqL.of (eD _ _ h6Y)⟩, ?_⟩
        refine for_it (walk_list (xs := natsV ((rl p top j).map (val p.n)))) (fun s σ H' => ∃ (o5 o6 : Option V) (cur : List Nat), σ = [some (.ref g), some (.int top), some (.ref F), some (.ref Y), some (.ref D2), o5, o6] ∧ Same H6 H' ∧ H' D2 = some (.dK (trueK cur)) ∧ cur.Nodup ∧
            ∀ y, y ∈ cur ↔ ∃ m ∈ ((rl p top j).map (val p.n)).take s, y ∈ p.within top m)
          ⟨o5, o6, [], rfl, eD, upd_same, by simp, fun y => by simp⟩ (fun s σ H' _ ⟨_, _, _, _, e, _⟩ => SqL.of (e _ _ h6Y)) ?_ ?_
        · rintro s v σ H7 H8 hs ⟨q5, q6, cur, rfl, e7, hcur, hcn, hcm⟩ ⟨rfl, hv⟩
          obtain ⟨m, hm, rfl⟩ := get_natsV hv
          have e07 := e06.trans e7
          walk_at "nf"
          refine ⟨_, rfl, g, dx, _, rfl, e07 _ _ g1, by rfl, _, rfl, _, rfl, g, p, m, top, rfl, Same.gr e07 hg, ok, by omega, fun H9 L e9 hL0 hL => ⟨L, rfl, ⟨_, SqL.of hL⟩, ?_⟩⟩
          have hcur9 := e9 _ _ hcur
          have hLD : L ≠ D2 := fun z => by rw [z, hcur] at hL0; cases hL0
          refine for_it (walk_list (xs := natsV (p.within top m))) (fun j σ H' => ∃ (o6 : Option V) (cu : List Nat), σ = [some (.ref g), some (.int top), some (.ref F), some (.ref Y), some (.ref D2), some (.int (m : Nat)), o6] ∧ Same H6 H' ∧ H' L = some (.lst (natsV (p.within top m))) ∧ H' D2 = some (.dK (trueK cu)) ∧ cu.Nodup ∧
              ∀ y, y ∈ cu ↔ y ∈ cur ∨ y ∈ (p.within top m).take j)
            ⟨q6, cur, rfl, e7.trans e9, hL, hcur9, hcn, fun y => by simp⟩ (fun j σ H' _ ⟨_, _, _, _, h, _⟩ => SqL.of h) ?_ ?_
          · rintro i v σ HA HB hi ⟨r6, cu, rfl, eA, hLA, hcu, hcun, hcum⟩ ⟨rfl, hv⟩
            obtain ⟨y, hy, rfl⟩ := get_natsV hv
            walk_at "nf"
            unfold L2.sDPut
            have hlt : ∀ x ∈ cu, x < 2 ^ p.n := fun x hx => by
              have key : ∀ m', m' ∈ (rl p top j).map (val p.n) → ∀ x ∈ p.within top m', x < 2 ^ p.n := fun m' hm' x hx => by
                obtain ⟨s', hs', rfl⟩ := List.mem_map.mp hm'
                obtain ⟨k', hk', rfl, _⟩ := mem_within.mp hx
                exact or_lt (mem_rl.mp hs').2.lt (mem_nxt.mp hk').1
              rcases (hcum x).mp hx with h | h
              · obtain ⟨m', h1, h2⟩ := (hcm x).mp h
                exact key m' (List.mem_of_mem_take h1) x h2
              · exact key m (List.mem_of_getElem? hm) x (List.mem_of_mem_take h)
            have hcl := nodup_lt hcun hlt
            have htl : (trueK cu).length = cu.length := List.length_map ..
            refine ⟨_, rfl, _, rfl, D2, _, rfl, DPut.k (k := Sum.inl ((y : Nat) : Int)) hcu (lt_size (by omega)), _, ins cu y, rfl, eA.mut hD2, (upd_ne hLD).trans hLA, by rw [upd_same, put_true], nd_ins hcun, fun x => ?_⟩
            rw [mem_ins, hcum, List.take_succ, hy]
            simp [or_assoc]
          · rintro σ HA ⟨r6, cu, rfl, eA, hLA, hcu, hcun, hcum⟩
            rw [natsV_len, List.take_length] at hcum
            refine ⟨_, r6, cu, rfl, eA, hcu, hcun, fun y => ?_⟩
            rw [hcum, hcm, List.take_succ, hm]
            constructor
            · rintro (⟨m', h1, h2⟩ | h)
              · exact ⟨m', List.mem_append_left _ h1, h2⟩
              · exact ⟨m, by simp, h⟩
            · rintro ⟨m', h1, h2⟩
              rcases List.mem_append.mp h1 with h1 | h1
              · exact .inl ⟨m', h1, h2⟩
              · have h1 : m' = m := by simpa using h1
                rw [h1] at h2
                exact .inr h2
        · rintro σ H7 ⟨q5, q6, cur, rfl, e7, hcur, hcn, hcm⟩
          rw [natsV_len, List.take_length] at hcm
          dsimp only [L2.tAsg, L2.tCKw, L2.tCons, L2.tNil, L2.tC]
          have hcj : ∀ y, y ∈ cur ↔ y ∈ (rl p top (j + 1)).map (val p.n) := fun y => by rw [hcm, rl_step]
          have hcl : cur.length ≤ 64 := by
            have := len_sub hcn fun x hx => (hcj x).mp hx
            rw [List.length_map] at this
            have := rl_len (p := p) (top := top) (j + 1)
            omega
          have htl : (trueK cur).length = cur.length := List.length_map ..
          refine lc_keys hcur (fun od F q => ⟨_, rfl, q⟩) (fun i acc => acc = natsV (cur.take i)) rfl ?_ ?_
          · intro od D3 i k0 v H' acc hDd hDn hk e hDD hl2 hacc
            unfold trueK at hk
            rw [List.getElem?_map] at hk
            obtain ⟨y, hy, ey⟩ := Option.map_eq_some_iff.mp hk
            cases ey
            have hi := (List.getElem?_eq_some_iff.mp hy).1
            walk_at "nf"
            refine ⟨rfl, ?_⟩
            rw [if_pos rfl]
            refine ⟨_, rfl, .inl ⟨_, rfl, lc_put hDn hDD e hl2 (by omega) id ?_⟩⟩
            rw [hacc, List.take_succ, hy, natsV_snoc]
            rfl
          · intro D3 H8 acc hD3 e8 hDD3 _ hacc
            rw [htl, List.take_length] at hacc
            subst hacc
            refine ⟨D3, cur.map fun k : Nat => (k : Int), rfl, rfl, ?_, fun ns' p' hperm hord hp' => ?_⟩
            · rw [List.map_map]
              exact SqL.of hDD3
            · have hns := desc_of hperm (by simpa [OrdB] using hord) hcn (rl_desc (p := p) (top := top) (j + 1)) hcj
              rw [hns]
              have e9 := (e7.trans e8).new (o := .lst (natsV ((rl p top (j + 1)).map (val p.n)))) hp'
              have hF8 := (e7.trans e8) _ _ h6F
              exact ⟨_, by omega, j + 1, p', vs6, _, _, _, rfl, by omega, rfl, e06.trans e9, e9 _ _ h6F, hvl6, paired_imp (fun a b h => Same.tupp e9 h) hP6, upd_same, (ne_of_none hF8 hp').symm⟩
end
end NS
set_option Elab.async false
set_option linter.all false
set_option maxRecDepth 100000
set_option maxHeartbeats 4000000
/-! Lists of tuples of numbers as data. -/
namespace NS
open PySem PySem.Spec PyProof.Rows L2 He
theorem room65 {k : Nat} {A : Around} (r : Room k A) : A.units + 65 < cLine := by have := r.un; omega
def intsD (s : List Nat) : List PyData := s.map fun k => .int (k : Nat)
def numD (s : List Nat) : PyData := .tuple (intsD s)
theorem ints_lay : ∀ s : List Nat, PyData.canLayAll0 (intsD s) = true
  | [] => by simp [intsD, PyData.canLayAll0]
  | k :: s => by
    have := ints_lay s
    unfold intsD at this ⊢
    simp [PyData.canLayAll0, PyData.canLay0, this]
theorem ints_depth : ∀ s : List Nat, PyData.depthAll (intsD s) = 0
  | [] => by simp [intsD, PyData.depthAll]
  | k :: s => by
    have := ints_depth s
    unfold intsD at this ⊢
    simp [PyData.depthAll, PyData.depth, this]
theorem numD_lay (s : List Nat) : (numD s).canLay0 = true := by
  unfold numD
  simp only [PyData.canLay0]
  exact ints_lay s
theorem numD_depth (s : List Nat) : (numD s).depth = 1 := by
  unfold numD
  simp only [PyData.depth, ints_depth]
theorem nums_lay : ∀ l : List (List Nat), PyData.canLayAll0 (l.map numD) = true
  | [] => by simp [PyData.canLayAll0]
  | s :: l => by simp [PyData.canLayAll0, numD_lay s, nums_lay l]
theorem nums_depth : ∀ l : List (List Nat), PyData.depthAll (l.map numD) ≤ 1
  | [] => by simp [PyData.depthAll]
  | s :: l => by
    have h1 := nums_depth l
    have h2 := numD_depth s
    simp only [List.map_cons, PyData.depthAll]
    omega
theorem numD_shaped (s : List Nat) : SeqAt.shaped (numD s) = true := by
  have h := numD_depth s
  show ((numD s).canLay0 && decide ((numD s).depth ≤ 64)) = true
  rw [Bool.and_eq_true]
  exact ⟨numD_lay s, decide_eq_true (by omega)⟩
theorem nums_shaped (l : List (List Nat)) : SeqAt.shaped (.list (l.map numD)) = true := by
  have h1 := nums_depth l
  have h2 : PyData.depth (.list (l.map numD)) ≤ 64 := by
    simp only [PyData.depth]
    omega
  show (PyData.canLay0 (.list (l.map numD)) && decide (PyData.depth (.list (l.map numD)) ≤ 64)) = true
  rw [Bool.and_eq_true]
  exact ⟨by simp only [PyData.canLay0]; exact nums_lay l, decide_eq_true h2⟩
theorem ints_eqv : ∀ s t : List Nat, PyData.eqvAll (intsD s) (intsD t) = decide (s = t)
  | [], [] => by simp [intsD, PyData.eqvAll]
  | [], k :: t => by simp [intsD, PyData.eqvAll]
  | k :: s, [] => by simp [intsD, PyData.eqvAll]
  | k :: s, j :: t => by
    have ih := ints_eqv s t
    unfold intsD at ih ⊢
    simp only [List.map_cons, PyData.eqvAll, PyData.eqv, ih]
    by_cases h : k = j
    · subst h
      simp
    · have q : ((k : Int) == (j : Int)) = false := beq_eq_false_iff_ne.mpr (by omega)
      rw [q, Bool.false_and, decide_eq_false fun z => h (List.cons.inj z).1]
theorem numD_eqv (s t : List Nat) : PyData.eqv (numD s) (numD t) = decide (s = t) := by
  unfold numD
  simp only [PyData.eqv]
  exact ints_eqv s t
theorem any_nums (s : List Nat) : ∀ l : List (List Nat), ((l.map numD).any fun z => PyData.eqv z (numD s)) = decide (s ∈ l)
  | [] => by simp
  | t :: l => by
    rw [List.map_cons, List.any_cons, any_nums s l, numD_eqv, Bool.eq_iff_iff, Bool.or_eq_true, decide_eq_true_eq, decide_eq_true_eq, decide_eq_true_eq, List.mem_cons]
    exact or_congr_left ⟨fun h => h.symm, fun h => h.symm⟩
theorem ints_dp {K : PySem.W.Frag} {H : Hp} : ∀ s : List Nat, DpAll K H (natsV s) (intsD s)
  | [] => .nil
  | k :: s => .cons (.int _) (ints_dp s)
theorem numD_dp {K : PySem.W.Frag} {H : Hp} {t : Addr} {s : List Nat} (h : SqT K H t (natsV s)) : Dp K H (.ref t) (numD s) := .tup h (ints_dp s)
theorem nums_dp {K : PySem.W.Frag} {H : Hp} {vs : List V} {l : List (List Nat)} (h : Paired (TupP H) vs l) : DpAll K H vs (l.map numD) := by
  induction h with
  | nil => exact .nil
  | cons h _ ih =>
    obtain ⟨t, rfl, ht⟩ := h
    exact .cons (numD_dp (SqT.of ht)) ih
theorem listD_dp {K : PySem.W.Frag} {H : Hp} {a : Addr} {vs : List V} {l : List (List Nat)} (ha : SqL K H a vs) (h : Paired (TupP H) vs l) : Dp K H (.ref a) (.list (l.map numD)) := .lst ha (nums_dp h)
theorem tupD_dp {K : PySem.W.Frag} {H : Hp} {a : Addr} {vs : List V} {l : List (List Nat)} (ha : SqT K H a vs) (h : Paired (TupP H) vs l) : Dp K H (.ref a) (.tuple (l.map numD)) := .tup ha (nums_dp h)
theorem eq_tup {K : PySem.W.Frag} {H : Hp} {a b : Addr} {s t : List Nat} {Q : VK} (h1 : SqT K H a (natsV s)) (h2 : SqT K H b (natsV t)) (q : Q (.bl (decide (s = t))) H) : rEqD K (.ref a) (.ref b) H Q := by
  refine ⟨_, _, numD_dp h1, numD_dp h2, numD_shaped s, numD_shaped t, ?_⟩
  rw [numD_eqv]
  exact q
theorem in_tups {K : PySem.W.Frag} {H : Hp} {a b : Addr} {s : List Nat} {vs : List V} {l : List (List Nat)} {Q : VK} (h1 : SqT K H a (natsV s)) (h2 : SqL K H b vs) (h3 : Paired (TupP H) vs l) (q : Q (.bl (decide (s ∈ l))) H) : rInD K (.ref a) (.ref b) H Q := by
  refine ⟨_, _, numD_dp h1, listD_dp h2 h3, numD_shaped s, nums_shaped l, ?_⟩
  rw [any_nums]
  exact q
/-! ### their repr -/
theorem small_log {k : Nat} (h : k < 8) : ((k : Nat) : Int).natAbs.log2 < 1920 := by
  have : k = 0 ∨ k = 1 ∨ k = 2 ∨ k = 3 ∨ k = 4 ∨ k = 5 ∨ k = 6 ∨ k = 7 := by omega
  rcases this with h | h | h | h | h | h | h | h <;> subst h <;> decide +kernel
theorem small_len {k : Nat} (h : k < 8) : (PyData.shown (.int ((k : Nat) : Int))).length ≤ 8 := by
  have : k = 0 ∨ k = 1 ∨ k = 2 ∨ k = 3 ∨ k = 4 ∨ k = 5 ∨ k = 6 ∨ k = 7 := by omega
  rcases this with h | h | h | h | h | h | h | h <;> subst h <;> decide +kernel
theorem ints_show : ∀ {s : List Nat}, (∀ k ∈ s, k < 8) → PyData.showableAll (intsD s) = true ∧ PyData.leavesShortAll 8 (intsD s) = true ∧ PyData.bulkAll (intsD s) = s.length
  | [], _ => by simp [intsD, PyData.showableAll, PyData.leavesShortAll, PyData.bulkAll]
  | k :: s, h => by
    obtain ⟨a, b, c⟩ := ints_show fun j hj => h j (List.mem_cons_of_mem _ hj)
    have hk := h k (List.mem_cons_self ..)
    unfold intsD at a b c ⊢
    refine ⟨?_, ?_, ?_⟩
    · simp only [List.map_cons, PyData.showableAll, PyData.showable, a, decide_eq_true (small_log hk), Bool.and_self]
    · simp only [List.map_cons, PyData.leavesShortAll, PyData.leavesShort, b, decide_eq_true (small_len hk), Bool.and_self]
    · simp only [List.map_cons, PyData.bulkAll, PyData.bulk, c, List.length_cons]
      omega
theorem numD_show {s : List Nat} (h : ∀ k ∈ s, k < 8) (hl : s.length ≤ 8) : (numD s).showable = true ∧ (numD s).leavesShort 8 = true ∧ (numD s).bulk ≤ 8 := by
  obtain ⟨a, b, c⟩ := ints_show h
  unfold numD
  simp only [PyData.showable, PyData.leavesShort, PyData.bulk]
  exact ⟨a, b, by omega⟩
theorem nums_show : ∀ {l : List (List Nat)}, (∀ s ∈ l, (∀ k ∈ s, k < 8) ∧ s.length ≤ 8) → PyData.showableAll (l.map numD) = true ∧ PyData.leavesShortAll 8 (l.map numD) = true ∧ PyData.bulkAll (l.map numD) ≤ 9 * l.length
  | [], _ => by simp [PyData.showableAll, PyData.leavesShortAll, PyData.bulkAll]
  | s :: l, h => by
    obtain ⟨a, b, c⟩ := nums_show fun j hj => h j (List.mem_cons_of_mem _ hj)
    obtain ⟨h1, h2⟩ := h s (List.mem_cons_self ..)
    obtain ⟨a', b', c'⟩ := numD_show h1 h2
    refine ⟨?_, ?_, ?_⟩
    · simp only [List.map_cons, PyData.showableAll, a, a', Bool.and_self]
    · simp only [List.map_cons, PyData.leavesShortAll, b, b', Bool.and_self]
    · simp only [List.map_cons, PyData.bulkAll, List.length_cons]
      omega
theorem tup_repr {K : PySem.W.Frag} {H : Hp} {a : Addr} {vs : List V} {l : List (List Nat)} {Q : VK} (ha : SqT K H a vs) (h : Paired (TupP H) vs l) (hl : ∀ s ∈ l, (∀ k ∈ s, k < 8) ∧ s.length ≤ 8) (hn : l.length ≤ 1000) (q : Q (.str (PyData.tuple (l.map numD)).shown) H) : rRepr K [.ref a] H Q := by
  obtain ⟨h1, h2, h3⟩ := nums_show hl
  refine ⟨a, _, rfl, tupD_dp ha h, by simp only [PyData.showable]; exact h1, by simp only [PyData.hasDict]; exact PyData.hasDictAll_of_canLayAll _ (nums_lay l), ?_, ?_, q⟩
  · have := nums_depth l
    simp only [PyData.depth]
    omega
  · refine PyData.shown_fits_bulk (B := 8) (by decide) (by decide) (by simp only [PyData.leavesShort]; exact h2) ?_
    simp only [PyData.bulk]
    have : (2 : Nat) ^ 20 = 1048576 := by decide
    omega
theorem bools_repr {K : PySem.W.Frag} {H : Hp} {a : Addr} {x y z : Bool} {Q : VK} (ha : SqL K H a [.bl x, .bl y, .bl z]) (q : Q (.str (PyData.list [.bool x, .bool y, .bool z]).shown) H) : rRepr K [.ref a] H Q := by
  refine ⟨a, _, rfl, .lst ha (.cons (.bl _) (.cons (.bl _) (.cons (.bl _) .nil))), rfl, rfl, by simp [PyData.depth, PyData.depthAll], ?_, q⟩
  exact PyData.shown_fits_bulk (B := 8) (by decide) (by decide) rfl (by simp [PyData.bulk, PyData.bulkAll])
end NS
set_option Elab.async false
set_option linter.all false
set_option maxRecDepth 100000
set_option maxHeartbeats 4000000
/-! The law's rows at a standing, its test of a standing. -/
namespace NS
open PySem PySem.Spec PyProof.Rows L2 He
local macro_rules | `(tactic| walk_at "nf") => `(tactic| dsimp only [L2.tNext, L2.tSeq, L2.tDrop, L2.tRet, L2.tRetN, L2.tIfS, L2.tAsg, L2.gName, L2.gCons, L2.gNil, L2.gTup, L2.tOp, L2.tUn, L2.tTest, L2.tChain, L2.tB, L2.tAnd, L2.tOr, L2.tNot, L2.tAndV, L2.tOrV, L2.tNotV, L2.tIf, L2.tCB, L2.tNil, L2.tCons, L2.tTup, L2.tLst, L2.tFld, L2.sFld, L2.tCall, L2.tMeth, L2.tMake, L2.tBM, L2.tBM0, L2.tM1, L2.tM0, L2.tSl, L2.tPart, L2.tNoPart, L2.tPar, L2.tVar, L2.tC, L2.cxOf, L2.tYes, C8.tCut])
theorem RowsAt.isin {H : Hp} {d : Addr} {cols : List Str} {rows : Rws} (h : RowsAt H d rows) (ho : OkRows cols rows) (p : Str) : ∃ o, DGet H d (.str p) o ∧ o.isSome = decide (p ∈ rows.map Prod.fst) := by
  obtain ⟨kvs, hk, _⟩ := h.opn
  refine ⟨_, DGet.k (k := .inr p) hk, ?_⟩
  by_cases hp : p ∈ rows.map Prod.fst
  · obtain ⟨r, hr, rfl⟩ := List.mem_map.mp hp
    obtain ⟨a, h1, h2⟩ := h.get hk ho.nd hr
    rw [h1, decide_eq_true hp]
    rfl
  · rw [h.non hk hp, decide_eq_false hp]
    rfl
/-- the test whether a list of numbers is empty -/
theorem eq_nats {K : PySem.W.Frag} {H : Hp} {a b : Addr} {l : List Nat} {Q : VK} (h1 : SqL K H a (natsV l)) (h2 : H b = some (.lst [])) (q : Q (.bl l.isEmpty) H) : rEqD K (.ref a) (.ref b) H Q := by
  refine ⟨_, _, .lst h1 (dp_nats l), .lst (SqL.of h2) .nil, shp_nats l, shp_nil, ?_⟩
  rw [eqv_nilL]
  cases l <;> exact q
def badB (s : List Nat) (q : Nat × Nat) : Bool := decide (q.2 ∈ s) && !decide (q.1 ∈ s)
theorem bad_none (s : List Nat) : ∀ prs : List (Nat × Nat), ((prs.filter (badB s)).map fun _ => 1).isEmpty = prs.all fun q => !(decide (q.2 ∈ s) && !decide (q.1 ∈ s))
  | [] => rfl
  | q :: r => by
    have ih := bad_none s r
    rw [List.all_cons, ← ih]
    show ((List.filter (badB s) (q :: r)).map _).isEmpty = (!badB s q && _)
    rw [List.filter_cons]
    cases badB s q <;> simp
theorem bad_snoc {s : List Nat} {prs : List (Nat × Nat)} {i : Nat} {q : Nat × Nat} (h : prs[i]? = some q) : ((prs.take (i + 1)).filter (badB s)).map (fun _ => 1) = ((prs.take i).filter (badB s)).map (fun _ => 1) ++ if badB s q = true then [1] else [] := by
  rw [List.take_succ, h, List.filter_append, List.map_append]
  show _ ++ List.map _ (List.filter (badB s) [q]) = _
  rw [List.filter_cons]
  cases badB s q <;> rfl
section
variable {P : Program} {w : World} {K : PySem.W.Frag} {mg : Str → Option Value} {base : Heap}
def sp_law_strict (K : PySem.W.Frag) : Sp := fun vs H Q _ => ∃ (l t : Addr) (vs' : List V) (prs : List (Nat × Nat)) (s : List Nat), vs = [.ref l, .ref t] ∧ SqL K H l vs' ∧ Paired (PrAt H) vs' prs ∧ prs.length ≤ 1000 ∧ SqT K H t (natsV s) ∧
  ∀ H', Same H H' → Q (.bl (prs.all fun q => !(decide (q.2 ∈ s) && !decide (q.1 ∈ s)))) H'
theorem sc_law_is_strict : FnScope ["_law_pairs_here", "_law_done", "_law_ahead", "_law_behind"] ["_law_pairs_here", "_law_done"] (defScope s_law_is_strict) := ⟨rfl, rfl, rfl, by decide +kernel, rfl, by decide +kernel, by decide +kernel⟩
theorem ok_law_is_strict (T : Tx K mg) : C8.Cal P w K mg base 1 "_law_is_strict" (sp_law_strict K) [] := by
  refine cal_of T.f_law_is_strict T.g_law_is_strict sc_law_is_strict (fun _ _ _ _ _ _ us hl => match us, hl with | [_, _], _ => rfl) (fun vs H Q E h => ?_) (fun cdv A outer s H vs Q E hr h => ?_)
  · obtain ⟨l, t, vs', prs, sl, rfl, _⟩ := h
    rfl
  · obtain ⟨l, t, vs', prs, sl, rfl, hl, hvp, hn, ht, k⟩ := h
    have nd := sc_law_is_strict.nd
    refine ⟨_, (pss_one (ps_ret (pe_cmpR (op_eqD hr.units) (pe_lc (own := [("_law_ahead", 2), ("_law_behind", 3)]) rfl nd (pi_list (pv 0)) (blkOk_by (by kernel_rfl)) (fun _ _ _ _ _ => (show PG _ _ (gTup K 2 _) from pg_tup (by rfl) (pgs_cons (pg_name (i := 2) nd rfl (Or.inl rfl)) (pgs_cons (pg_name (i := 3) nd rfl (Or.inl rfl)) pgs_nil)))) (fun _ _ _ _ _ => (pts_one (PW.pt (pw_and (pt_cmpR (show OpR _ (compareOp .In) (rIn K false) from op_in_seq) (pv 3) (pv 1) (by rfl)) (pw_and1 (pt_cmpR (show OpR _ (compareOp .NotIn) (rIn K true) from op_notIn_seq) (pv 2) (pv 1) (by rfl))))))) (fun _ _ _ _ _ => pe_int)) (pe_lst pa_nil) (nomark _)))), ?_⟩
    walk_at "nf"
    have hlen := hvp.length
    refine ⟨_, rfl, l, rfl, ⟨_, hl⟩, fun D hD => ?_⟩
    refine lc_go (walk_list (xs := vs')) hD (fun i acc _ => acc = natsV (((prs.take i).filter (badB sl)).map fun _ => 1)) (fun H6 e6 => Same.sql e6 hl) rfl ?_ ?_
    · rintro i v H4 H5 acc hi e hDD hlen2 hacc ⟨rfl, hv⟩
      obtain ⟨q, hq, tq, rfl, htq⟩ := paired_get hvp hv
      have ht5 := Same.tup e ht
      walk_at "nf"
      refine ⟨tq, _, rfl, SqT.of (e _ _ htq), rfl, _, [_], rfl, _, [], rfl, rfl, rfl, ?_⟩
      refine ⟨_, rfl, _, rfl, t, _, rfl, .inr ht5, rfl, flat_natsV _, ?_⟩
      have hin : inV (.int (q.2 : Nat)) (natsV sl) = decide (q.2 ∈ sl) := inV_nat
      have hin2 : inV (.int (q.1 : Nat)) (natsV sl) = decide (q.1 ∈ sl) := inV_nat
      have hb := bad_snoc (s := sl) hq
      have hbd : badB sl q = (decide (q.2 ∈ sl) && !decide (q.1 ∈ sl)) := rfl
      rw [if_neg Bool.false_ne_true, hin]
      refine ⟨_, rfl, ?_⟩
      by_cases h2 : q.2 ∈ sl
      · rw [decide_eq_true h2] at hbd ⊢
        refine iteT ⟨_, rfl, _, rfl, t, _, rfl, .inr ht5, rfl, flat_natsV _, ?_⟩
        rw [if_pos rfl, hin2]
        refine ⟨_, rfl, ?_⟩
        by_cases h1 : q.1 ∈ sl
        · rw [decide_eq_true h1] at hbd ⊢
          refine iteF ⟨acc, hDD, e, by omega, ?_⟩
          dsimp only
          rw [hacc, hb, hbd]
          simp
        · rw [decide_eq_false h1] at hbd ⊢
          refine iteT (lc_put hD hDD e hlen2 (by omega) id ?_)
          rw [hacc, hb, hbd]
          exact natsV_snoc _ 1
      · rw [decide_eq_false h2] at hbd ⊢
        refine iteF (iteF ⟨acc, hDD, e, by omega, ?_⟩)
        dsimp only
        rw [hacc, hb, hbd]
        simp
    · rintro H4 acc e hDD hacc
      rw [hlen, List.take_length] at hacc
      refine ⟨Nat.zero_le _, fun q hq => ?_⟩
      have e2 : Same H4 (upd H4 q (.lst [])) := (Same.refl _).new hq
      have hD2 := e2 _ _ hDD
      rw [hacc] at hD2
      refine eq_nats (SqL.of hD2) upd_same ?_
      rw [bad_none]
      exact k _ (e.trans e2)
def sp_law_rows (K : PySem.W.Frag) : Sp := fun vs H Q _ => ∃ s cols one two l vs' t done, vs = [.ref s, .ref l, .ref t] ∧ St2 H s cols one two ∧ SqL K H l vs' ∧ Paired (LSt H) vs' (stepsL cols one two) ∧ SqT K H t (natsV done) ∧ Asc (stepsL cols one two).length 0 done ∧
  ∀ H', Same H H' → Q (.int ((pbOf cols one two).rowsL done)) H'
theorem sc_law_rows : FnScope ["_law_site_here", "_law_steps_here", "_law_done", "_law_past", "_law_sides", "_law_k", "_law_place"] ["_law_site_here", "_law_steps_here", "_law_done"] (defScope s_law_rows) := ⟨rfl, rfl, rfl, by decide +kernel, rfl, by decide +kernel, by decide +kernel⟩
theorem ok_law_rows (T : Tx K mg) : C8.Cal P w K mg base 2 "_law_rows" (sp_law_rows K) [] := by
  refine cal_of T.f_law_rows T.g_law_rows sc_law_rows (fun _ _ _ _ _ _ us hl => match us, hl with | [_, _, _], _ => rfl) (fun vs H Q E h => ?_) (fun cdv A outer s H vs Q E hr h => ?_)
  · obtain ⟨s, cols, one, two, l, vs', t, done, rfl, _⟩ := h
    rfl
  · obtain ⟨s, cols, one, two, l, vs', t, done, rfl, hs, hl, hvp, ht, hasc, k⟩ := h
    have nd := sc_law_rows.nd
    have hu := hu_of hr
    have h6 := hs.le
    refine ⟨_, (pss_cons (ps_set (i := 3) nd rfl (Or.inr rfl) (pe_lc (own := [("_law_k", 5)]) rfl nd (pi_tup (pv 2)) (blkOk_by (by kernel_rfl)) (fun _ _ _ _ _ => (pg_name (i := 5) nd rfl (Or.inl rfl))) (fun _ _ _ _ _ => pts_nil) (fun _ _ _ _ _ => (pe_ix (show IxR _ (rIxT K) from ix_tup) (pe_ix (show IxR _ (rIxL K) from ix_list) (pv 1) (pv 5) (fun _ _ => rfl)) pe_int (fun _ _ => rfl)))))
      (pss_cons (ps_set (i := 4) nd rfl (Or.inr rfl) (pe_lst (pa_cons (pe_dget hu (pv 0) pe_str (fun _ _ => rfl)) (pa_cons (pe_dget hu (pv 0) pe_str (fun _ _ => rfl)) pa_nil))))
      (pss_one (ps_ret (pe_callB call_len_seq (by rfl) T.z_len (by decide +kernel) (pa_cons (pe_lc (own := [("_law_place", 6)]) rfl nd (pi_list (C8.pe_c (ok_law_spots T) hr (by decide) rfl (pa_cons (pv 0) pa_nil))) (blkOk_by (by kernel_rfl)) (fun _ _ _ _ _ => (pg_name (i := 6) nd rfl (Or.inl rfl))) (fun _ _ _ _ _ => (pts_one (pt_cmp (pc_din hu (pv 6) (pe_ix (show IxR _ (rIxL K) from ix_list) (pv 4) (pe_callTy call_int1 (by rfl) T.z_int (by decide +kernel) (pa_cons (pe_cmpR (show OpR _ (compareOp .In) (rIn K false) from op_in_seq) (pv 6) (pv 3) (by rfl)) pa_nil)) (fun _ _ => rfl)))))) (fun _ _ _ _ _ => (pv 6))) pa_nil)))))), ?_⟩
    walk_at "nf"
    have hlen := hvp.length
    have hdl : done.length ≤ 40 := by
      have h1 := hasc.len (Nat.zero_le _)
      have h2 := steps_le cols one two
      omega
    refine ⟨_, rfl, t, rfl, ⟨_, ht⟩, fun D hD => ?_⟩
    refine lc_go (walk_tup (xs := natsV done)) hD (fun i acc _ => acc = (placesOf (stepsL cols one two) (done.take i)).map V.str) (fun H6 e6 => Same.tup e6 ht) rfl ?_ ?_
    · rintro i v H4 H5 acc hi e hDD hlen2 hacc ⟨rfl, hv⟩
      obtain ⟨kk, hkk, rfl⟩ := get_natsV hv
      have hkl := (Asc.lt hasc kk (List.mem_of_getElem? hkk)).2
      obtain ⟨vi, hvi⟩ : ∃ vi, vs'[kk]? = some vi := ⟨_, List.getElem?_eq_getElem (by omega)⟩
      obtain ⟨si, hsi, ti, lci, rfl, hti, hlci⟩ := paired_get hvp hvi
      rw [natsV_len] at hi
      walk_at "nf"
      refine ⟨rfl, ?_⟩
      rw [if_pos rfl]
      refine ⟨_, rfl, _, rfl, l, _, _, _, rfl, rfl, Same.sql e hl, atI_nat hvi, ti, _, 0, _, rfl, rfl, SqT.of (e _ _ hti), rfl, lc_put hD hDD e hlen2 (by omega) id ?_⟩
      rw [hacc, List.take_succ, hkk]
      unfold placesOf
      rw [List.map_append, List.map_append]
      show _ = _ ++ [V.str ((((stepsL cols one two)[kk]?).map fun s => s.2.1).getD Str.empty)]
      rw [hsi]
      rfl
    · rintro H4 past e hDp hacc
      rw [natsV_len, List.take_length] at hacc
      have hs4 := Same.st2 e hs
      obtain ⟨lc, d1, d2, ld, g1, g2, g3, g4, g5, g6, g7, g8⟩ := hs4.at_.gets
      refine ⟨_, rfl, s, _, rfl, g6, _, rfl, s, _, rfl, g7, (by show 2 ≤ sizeLine; decide), fun F hF => ?_⟩
      have e5 : Same H4 (upd H4 F (.lst [.ref d1, .ref d2])) := (Same.refl _).new hF
      have h5F : upd H4 F (.lst [.ref d1, .ref d2]) F = some (.lst [.ref d1, .ref d2]) := upd_same
      generalize upd H4 F (.lst [.ref d1, .ref d2]) = H5 at e5 h5F
      refine ⟨_, rfl, s, cols, one, two, rfl, Same.st2 e5 hs4, fun H6 L e6 hL0 hL => ⟨L, rfl, ⟨_, SqL.of hL⟩, fun D2 hD2 => ?_⟩⟩
      have e46 := e5.trans e6
      refine lc_go (walk_list (xs := (spots one two).map V.str)) hD2 (fun i acc _ => acc = ((((spots one two).take i).filter (isOn (placesOf (stepsL cols one two) done) one two)).map V.str)) (fun H7 e7 => SqL.of (e7 _ _ hL)) rfl ?_ ?_
      · rintro i v H7 H8 acc2 hi e7 hDD2 hlen2 hacc2 ⟨rfl, hv⟩
        obtain ⟨p, hp, rfl⟩ := get_map_str hv
        rw [List.length_map] at hi
        have e48 := e46.trans e7
        have hp8 := SqL.of (K := K) (e48 _ _ hDp)
        rw [hacc] at hp8
        have hF8 := SqL.of (K := K) ((e6.trans e7) _ _ h5F)
        have hin : inV (.str p) ((placesOf (stepsL cols one two) done).map V.str) = decide (p ∈ placesOf (stepsL cols one two) done) := inV_str
        walk_at "nf"
        dsimp only [L2.tDIn, L2.tVar, L2.tOp, L2.tCB, L2.tCons, L2.tNil]
        refine ⟨rfl, _, rfl, _, rfl, _, rfl, _, rfl, D, _, rfl, .inl hp8, rfl, flat_strV _, ?_⟩
        rw [if_neg Bool.false_ne_true, hin]
        have stp : ((spots one two).take (i + 1)).filter (isOn (placesOf (stepsL cols one two) done) one two) = ((spots one two).take i).filter (isOn (placesOf (stepsL cols one two) done) one two) ++ if isOn (placesOf (stepsL cols one two) done) one two p = true then [p] else [] := by
          rw [List.take_succ, hp, List.filter_append]
          show _ ++ List.filter _ [p] = _
          rw [List.filter_cons]
          cases isOn (placesOf (stepsL cols one two) done) one two p <;> rfl
        have yes : isOn (placesOf (stepsL cols one two) done) one two p = true → acc2 ++ [V.str p] = (((spots one two).take (i + 1)).filter (isOn (placesOf (stepsL cols one two) done) one two)).map V.str := fun h => by
          rw [stp, if_pos h, List.map_append, hacc2]
          rfl
        have no : isOn (placesOf (stepsL cols one two) done) one two p = false → acc2 = (((spots one two).take (i + 1)).filter (isOn (placesOf (stepsL cols one two) done) one two)).map V.str := fun h => by
          rw [stp, h, if_neg Bool.false_ne_true, List.append_nil, hacc2]
        refine .inr ⟨_, rfl, ?_⟩
        by_cases hm : p ∈ placesOf (stepsL cols one two) done
        · have hon : isOn (placesOf (stepsL cols one two) done) one two p = decide (p ∈ two.map Prod.fst) := by
            unfold isOn
            rw [if_pos hm]
          obtain ⟨o, ho, hoS⟩ := (Same.rows e48 g3).isin hs.h2 p
          rw [decide_eq_true hm]
          refine ⟨F, _, _, _, rfl, rfl, hF8, rfl, _, o, rfl, ho, _, rfl, ?_⟩
          rw [hoS, ← hon]
          cases hb : isOn (placesOf (stepsL cols one two) done) one two p with
          | true => exact iteT ⟨_, rfl, lc_put hD2 hDD2 e7 hlen2 (by omega) id (yes hb)⟩
          | false => exact iteF ⟨acc2, hDD2, e7, by omega, no hb⟩
        · have hon : isOn (placesOf (stepsL cols one two) done) one two p = decide (p ∈ one.map Prod.fst) := by
            unfold isOn
            rw [if_neg hm]
          obtain ⟨o, ho, hoS⟩ := (Same.rows e48 g2).isin hs.h1 p
          rw [decide_eq_false hm]
          refine ⟨F, _, _, _, rfl, rfl, hF8, rfl, _, o, rfl, ho, _, rfl, ?_⟩
          rw [hoS, ← hon]
          cases hb : isOn (placesOf (stepsL cols one two) done) one two p with
          | true => exact iteT ⟨_, rfl, lc_put hD2 hDD2 e7 hlen2 (by omega) id (yes hb)⟩
          | false => exact iteF ⟨acc2, hDD2, e7, by omega, no hb⟩
      · rintro H7 acc2 e7 hDD2 hacc2
        rw [List.length_map, List.take_length] at hacc2
        refine ⟨D2, _, rfl, .inl (SqL.of hDD2), ?_⟩
        have := k _ (e.trans (e46.trans e7))
        rw [← rows_done hs.h1 hs.h2 hasc] at this
        rw [hacc2, List.length_map]
        exact this
end
end NS
set_option Elab.async false
set_option linter.all false
set_option maxRecDepth 100000
set_option maxHeartbeats 4000000
/-! Grounds: the standing of a tuple. -/
namespace NS
open PySem PySem.Spec PyProof.Rows L2 He
local macro_rules | `(tactic| walk_at "nf") => `(tactic| dsimp only [L2.tNext, L2.tSeq, L2.tDrop, L2.tRet, L2.tRetN, L2.tIfS, L2.tAsg, L2.gName, L2.gCons, L2.gNil, L2.gTup, L2.tOp, L2.tUn, L2.tTest, L2.tChain, L2.tB, L2.tAnd, L2.tOr, L2.tNot, L2.tAndV, L2.tOrV, L2.tNotV, L2.tIf, L2.tCB, L2.tNil, L2.tCons, L2.tTup, L2.tLst, L2.tFld, L2.sFld, L2.tCall, L2.tMeth, L2.tMake, L2.tBM, L2.tBM0, L2.tM1, L2.tM0, L2.tSl, L2.tPart, L2.tNoPart, L2.tPar, L2.tVar, L2.tC, L2.cxOf, L2.tYes, C8.tCut])
theorem asc_take {n : Nat} {s : List Nat} (h : Asc n 0 s) (i : Nat) : Asc n 0 (s.take i) := asc_of (h.pairwise.sublist (List.take_sublist i s)) fun k hk => Asc.lt h k (List.mem_of_mem_take hk)
theorem val_or {n : Nat} {s : List Nat} (h : Asc n 0 s) {i k : Nat} (hk : s[i]? = some k) : val n (s.take i) ||| bit n k = val n (s.take (i + 1)) := by
  have h1 := asc_take h i
  have h2 := asc_take h (i + 1)
  have hkn := (Asc.lt h k (List.mem_of_getElem? hk)).2
  refine eq_of_has (or_lt (val_bound h1) hkn) (val_bound h2) fun j hj => ?_
  rw [has_or hkn hj]
  have a1 := has_val h1 j hj
  have a2 := has_val h2 j hj
  rw [List.take_succ, hk] at a2
  by_cases e : j = k
  · subst e
    have := a2.mpr (by simp)
    rw [List.take_succ, hk, this]
    simp
  · have hm : j ∈ s.take i ++ (some k).toList ↔ j ∈ s.take i := by simp [e]
    rw [hm, ← a1] at a2
    rw [List.take_succ, hk, decide_eq_false e, Bool.or_false]
    exact Bool.eq_iff_iff.mpr a2.symm
/-- a list is strict: with each step each one that must come ahead of it -/
def Strict (p : Pb) (s : List Nat) : Prop := ∀ q ∈ p.prs, has p.n (val p.n s) q.2 = true → has p.n (val p.n s) q.1 = true
theorem strict_free {p : Pb} {s : List Nat} (h : Strict p s) (ha : Asc p.n 0 s) {k : Nat} (hk : k ∈ s) : p.free (val p.n s) k = true := free_iff.mpr fun a hq => h _ hq ((has_val ha k (Asc.lt ha k hk).2).mpr hk)
section
variable {P : Program} {w : World} {K : PySem.W.Frag} {mg : Str → Option Value} {base : Heap}
def stV (p : Pb) (s : List Nat) : V := if p.n ≤ s.length then .non else .int (val p.n s : Nat)
def sp_standing_of (K : PySem.W.Frag) : Sp := fun vs H Q _ => ∃ g p t s, vs = [.ref g, .ref t] ∧ GrAt K H g p ∧ p.Ok ∧ p.n ≤ 40 ∧ SqT K H t (natsV s) ∧ Asc p.n 0 s ∧ Strict p s ∧ ∀ H', Same H H' → Q (stV p s) H'
theorem sc_Ground_standing_of : FnScope ["self", "thing", "standing", "strict", "at", "number"] ["self", "thing"] (defScope sGround_standing_of) := ⟨rfl, rfl, rfl, by decide +kernel, rfl, by decide +kernel, by decide +kernel⟩
theorem ok_Ground_standing_of (T : Tx K mg) : C8.Met P w K mg base 1 (ga K "Ground") "standing_of" (sp_standing_of K) [] := by
  refine met_of T.cl_Ground T.m_Ground_standing_of T.f_Ground_standing_of sc_Ground_standing_of (fun _ _ _ _ _ _ us hl => match us, hl with | [_, _], _ => rfl) (fun vs H Q E h => ?_) (fun cdv A outer s H vs Q E hr h => ?_)
  · obtain ⟨g, p, t, s, rfl, _⟩ := h
    rfl
  · obtain ⟨g, p, t, l, rfl, hg, ok, hn, ht, hasc, hst, k⟩ := h
    have nd := sc_Ground_standing_of.nd
    refine ⟨_, (pss_cons (ps_if (PW.pt (pw_or (pt_not (pt_val (pe_callB call_isi (by rfl) T.z_isinstance (by decide +kernel) (pa_cons (pv 1) (pa_cons (pe_bltn (v := .ty "tuple") (u := .type "tuple") rfl T.z_tuple (by decide +kernel) rfl) pa_nil))))) (pw_or1 (pt_cmpR op_ge (pe_callB call_len_seq (by rfl) T.z_len (by decide +kernel) (pa_cons (pv 1) pa_nil)) (pe_fld (pv 0) rfl) (nomark _))))) (pss_one (ps_ret pe_non)) pss_nil)
      (pss_cons (ps_set (i := 2) nd rfl (Or.inr rfl) pe_int)
      (pss_cons (ps_for PassesOwn.never rfl (pi_enumA rfl T.z_enumerate (pa_cons (pv 1) pa_nil)) (pg_tup (by rfl) (pgs_cons (pg_name (i := 4) nd rfl (Or.inl rfl)) (pgs_cons (pg_name (i := 5) nd rfl (Or.inl rfl)) pgs_nil)))
      (pss_cons (ps_if (PW.pt (pw_or (pt_not (pt_val (pe_callB call_isi (by rfl) T.z_isinstance (by decide +kernel) (pa_cons (pv 5) (pa_cons (pe_bltn (v := .ty "int") (u := .type "int") rfl T.z_int (by decide +kernel) rfl) pa_nil))))) (pw_or (pt_val (pe_callB call_isi (by rfl) T.z_isinstance (by decide +kernel) (pa_cons (pv 5) (pa_cons (pe_bltn (v := .ty "bool") (u := .type "bool") rfl T.z_bool (by decide +kernel) rfl) pa_nil)))) (pw_or1 (pt_not (pt_chain op_le op_lt pe_int (pv 5) (pe_fld (pv 0) rfl))))))) (pss_one (ps_ret pe_non)) pss_nil)
      (pss_cons (ps_if (PW.pt (pw_and (pt_cmpR op_gt (pv 4) pe_int (nomark _)) (pw_and1 (pt_cmpR op_le (pv 5) (pe_ix ix_tup (pv 1) (pe_op op_sub (pv 4) pe_int) (fun _ _ => rfl)) (nomark _))))) (pss_one (ps_ret pe_non)) pss_nil)
      (pss_one (ps_set (i := 2) nd rfl (Or.inr rfl) (pe_op op_or (pv 2) (pe_ix ix_list (pe_fld (pv 0) rfl) (pv 5) (fun _ _ => rfl))))))))
      (pss_cons (ps_setLc (i := 3) (own := [("number", 5)]) rfl nd rfl rfl (sw_true rfl rfl rfl (by kernel_rfl)) (pi_tup (pv 1)) (blkOk_by (by kernel_rfl)) (fun _ _ _ _ _ => (pg_name (i := 5) nd rfl (Or.inl rfl))) (fun _ _ _ _ _ => pts_nil) (fun _ _ _ _ _ => (pe_cmpR op_eq (pe_op op_and (pv 2) (pe_ix (show IxR _ (rIxL K) from ix_list) (show PE _ _ (tFld K (tVar 0) "ahead") from pe_fld (pv 0) rfl) (pv 5) (fun _ _ => rfl))) (pe_ix (show IxR _ (rIxL K) from ix_list) (show PE _ _ (tFld K (tVar 0) "ahead") from pe_fld (pv 0) rfl) (pv 5) (fun _ _ => rfl)) (nomark _))))
      (pss_one (ps_ret (pe_ifExp (pt_val (pe_callB (cr_all rfl) (by rfl) T.z_all (by decide +kernel) (pa_cons (pv 3) pa_nil))) (pv 2) pe_non))))))), ?_⟩
    obtain ⟨dx, lg, lb, la, g1, g2, g3, g4⟩ := hg.ex
    have hll := Asc.len hasc (Nat.zero_le _)
    walk_at "nf"
    refine ⟨_, rfl, q_isi (b := true) "tuple" (ty_sqt ht) (kit_ty (by decide +kernel)) ⟨_, rfl, ?_⟩⟩
    rw [Bool.not_true]
    refine iteF ⟨_, rfl, t, _, rfl, .inr ht, _, rfl, g, _, dx, _, _, rfl, g1, T.cl_Ground, T.n_Ground_many, by rfl, _, _, rfl, rfl, _, rfl, ?_⟩
    rw [natsV_len]
    by_cases hge : p.n ≤ l.length
    · rw [decide_eq_true (show ((p.n : Nat) : Int) ≤ (l.length : Nat) by omega)]
      have k := k H (Same.refl _)
      unfold stV at k
      rw [if_pos hge] at k
      exact iteT k
    · rw [decide_eq_false (show ¬ ((p.n : Nat) : Int) ≤ (l.length : Nat) by omega)]
      unfold stV at k
      rw [if_neg hge] at k
      refine iteF ⟨_, rfl, t, _, rfl, .inr ⟨ht, ?_⟩⟩
      refine for_it (walk_enumT (K := K) (a := t) (xs := natsV l)) (fun i σ H' => ∃ o4 o5 : Option V, σ = [some (.ref g), some (.ref t), some (.int (val p.n (l.take i) : Nat)), none, o4, o5] ∧ Same H H')
        ⟨none, none, rfl, Same.refl _⟩ (fun i σ H' _ ⟨_, _, _, e⟩ => Same.tup e ht) ?_ ?_
      · rintro i v σ H1 H2 hi ⟨o4, o5, rfl, e1⟩ ⟨T0, v1, v2, rfl, hT0, rfl, hv1, hv2⟩
        obtain rfl : V.int i = v1 := Option.some.inj hv1
        obtain ⟨kk, hkk, rfl⟩ := get_natsV hv2
        have hkl := Asc.lt hasc kk (List.mem_of_getElem? hkk)
        have e2 : Same H (upd H1 T0 (.tup [.int i, .int (kk : Nat)])) := e1.new hT0
        have hT2 : upd H1 T0 (.tup [.int i, .int (kk : Nat)]) T0 = some (.tup [.int i, .int (kk : Nat)]) := upd_same
        generalize upd H1 T0 (.tup [.int i, .int (kk : Nat)]) = H2 at e2 hT2
        walk_at "nf"
        refine ⟨T0, _, rfl, SqT.of hT2, rfl, _, _, rfl, _, _, rfl, rfl, ?_⟩
        refine ⟨_, rfl, q_isi (b := true) "int" (.base (.int _)) (kit_ty (by decide +kernel)) ⟨_, rfl, iteF ⟨_, rfl, q_isi (b := false) "bool" (.base (.int _)) (kit_ty (by decide +kernel)) ⟨_, rfl, iteF ?_⟩⟩⟩⟩
        refine ⟨_, rfl, _, _, rfl, rfl, _, rfl, ?_⟩
        rw [decide_eq_true (show (0 : Int) ≤ ((kk : Nat) : Int) by omega)]
        refine iteT ⟨_, rfl, g, _, dx, _, _, rfl, e2 _ _ g1, T.cl_Ground, T.n_Ground_many, by rfl, _, _, rfl, rfl, _, rfl, ?_⟩
        rw [decide_eq_true (show ((kk : Nat) : Int) < ((p.n : Nat) : Int) by omega), Bool.not_true]
        refine iteF ⟨_, rfl, _, _, rfl, rfl, _, rfl, ?_⟩
        have fin : ∃ o4 o5 : Option V, ([some (.ref g), some (.ref t), some (.int (val p.n (l.take i) : Nat)), none, some (.int (i : Nat)), some (.int (kk : Nat))].set 2 (some (.int (Builtin.bitOr (val p.n (l.take i) : Nat) (bit p.n kk : Nat)))) : L2.St) = [some (.ref g), some (.ref t), some (.int (val p.n (l.take (i + 1)) : Nat)), none, o4, o5] ∧ Same H H2 := by
          rw [bitOr_nat, val_or hasc hkk]
          exact ⟨_, _, rfl, e2⟩
        by_cases hi0 : (0 : Int) < ((i : Nat) : Int)
        · rw [decide_eq_true hi0]
          obtain ⟨j, rfl⟩ : ∃ j, i = j + 1 := ⟨i - 1, by omega⟩
          obtain ⟨pj, hpj⟩ : ∃ pj, l[j]? = some pj := ⟨_, List.getElem?_eq_getElem (by have := (List.getElem?_eq_some_iff.mp hkk).1; omega)⟩
          have hlt : pj < kk := by
            obtain ⟨q1, e1⟩ := List.getElem?_eq_some_iff.mp hpj
            obtain ⟨q2, e2⟩ := List.getElem?_eq_some_iff.mp hkk
            have := List.pairwise_iff_getElem.mp hasc.pairwise j (j + 1) q1 q2 (Nat.lt_succ_self _)
            rwa [e1, e2] at this
          have hget : (natsV l)[j]? = some (.int (pj : Nat)) := by
            unfold natsV
            rw [List.getElem?_map, hpj]
            rfl
          have hix : (((j + 1 : Nat) : Int) - 1) = ((j : Nat) : Int) := by omega
          refine iteT ⟨_, rfl, _, rfl, _, rfl, _, _, rfl, rfl, ?_⟩
          dsimp only
          rw [hix]
          refine ⟨t, _, _, _, rfl, rfl, Same.tup e2 ht, atI_nat hget, _, _, rfl, rfl, _, rfl, ?_⟩
          rw [decide_eq_false (show ¬ ((kk : Nat) : Int) ≤ ((pj : Nat) : Int) by omega)]
          exact iteF ⟨_, rfl, _, rfl, g, _, dx, _, _, rfl, e2 _ _ g1, T.cl_Ground, T.n_Ground_bits, by rfl, _, rfl, lb, _, _, _, rfl, rfl, SqL.of (e2 _ _ g3), atI_nat (rng_get hkl.2), _, _, rfl, rfl, fin⟩
        · rw [decide_eq_false hi0]
          exact iteF (iteF ⟨_, rfl, _, rfl, g, _, dx, _, _, rfl, e2 _ _ g1, T.cl_Ground, T.n_Ground_bits, by rfl, _, rfl, lb, _, _, _, rfl, rfl, SqL.of (e2 _ _ g3), atI_nat (rng_get hkl.2), _, _, rfl, rfl, fin⟩)
      · rintro σ H1 ⟨o4, o5, rfl, e1⟩
        rw [natsV_len, List.take_length]
        walk_at "nf"
        refine ⟨_, rfl, t, rfl, ⟨_, Same.tup e1 ht⟩, fun D hD => ?_⟩
        refine lc_go (walk_tup (xs := natsV l)) hD (fun i acc _ => acc = List.replicate i (V.bl true)) (fun H6 e6 => Same.tup (e1.trans e6) ht) rfl ?_ ?_
        · rintro i v H4 H5 acc hi e hDD hlen hacc ⟨rfl, hv⟩
          obtain ⟨kk, hkk, rfl⟩ := get_natsV hv
          have hkm := List.mem_of_getElem? hkk
          have hkn := (Asc.lt hasc kk hkm).2
          rw [natsV_len] at hi
          have e2 := e1.trans e
          walk_at "nf"
          refine ⟨rfl, ?_⟩
          rw [if_pos rfl]
          refine ⟨_, rfl, _, rfl, g, _, dx, _, _, rfl, e2 _ _ g1, T.cl_Ground, T.n_Ground_ahead, by rfl, _, rfl, la, _, _, _, rfl, rfl, SqL.of (e2 _ _ g4), atI_nat (rng_get hkn), _, _, rfl, rfl, ?_⟩
          refine ⟨_, rfl, g, _, dx, _, _, rfl, e2 _ _ g1, T.cl_Ground, T.n_Ground_ahead, by rfl, _, rfl, la, _, _, _, rfl, rfl, SqL.of (e2 _ _ g4), atI_nat (rng_get hkn), ?_⟩
          dsimp only
          rw [bitAnd_nat]
          refine ⟨rfl, ?_⟩
          rw [free_test ok, strict_free hst hasc hkm]
          refine lc_put hD hDD e hlen (by omega) id ?_
          rw [hacc, List.replicate_succ']
        · rintro H4 acc e hDD hacc
          rw [natsV_len] at hacc
          refine ⟨_, rfl, D, List.replicate l.length true, rfl, SqL.of (by rw [hDD, hacc]; simp), ?_⟩
          have ea : (List.replicate l.length true).all id = true := by simp
          refine ⟨_, rfl, ?_⟩
          rw [ea]
          exact iteT ⟨_, rfl, k _ (e1.trans e)⟩
end
end NS
set_option Elab.async false
set_option linter.all false
set_option maxRecDepth 100000
set_option maxHeartbeats 4000000
/-! barred. -/
namespace NS
open PySem PySem.Spec PyProof.Rows L2 He
local macro_rules | `(tactic| walk_at "nf") => `(tactic| dsimp only [L2.tNext, L2.tSeq, L2.tDrop, L2.tRet, L2.tRetN, L2.tIfS, L2.tAsg, L2.gName, L2.gCons, L2.gNil, L2.gTup, L2.tOp, L2.tUn, L2.tTest, L2.tChain, L2.tB, L2.tAnd, L2.tOr, L2.tNot, L2.tAndV, L2.tOrV, L2.tNotV, L2.tIf, L2.tCB, L2.tNil, L2.tCons, L2.tTup, L2.tLst, L2.tFld, L2.sFld, L2.tCall, L2.tMeth, L2.tMake, L2.tBM, L2.tBM0, L2.tM1, L2.tM0, L2.tSl, L2.tPart, L2.tNoPart, L2.tPar, L2.tVar, L2.tC, L2.cxOf, L2.tYes, C8.tCut])
/-- the exchange at x has an order, whatever its room -/
structure Gd (K : PySem.W.Frag) (H : Hp) (x : Addr) (cols : List Str) (one two : Rws) : Prop where
  ex : ExAt K H x cols one two
  hc : OkCols cols
  h1 : OkRows cols one
  h2 : OkRows cols two
  le : (spots one two).length ≤ 6
  pl : ∀ p ∈ spots one two, PlaceS p
  od : ∃ f, (pbOf cols one two).Ord f
theorem Same.gd {K : PySem.W.Frag} {H H' : Hp} {x : Addr} {cols : List Str} {one two : Rws} (e : Same H H') (h : Gd K H x cols one two) : Gd K H' x cols one two := ⟨Same.ex e h.ex, h.hc, h.h1, h.h2, h.le, h.pl, h.od⟩
theorem Gd.n6 {K : PySem.W.Frag} {H : Hp} {x : Addr} {cols : List Str} {one two : Rws} (h : Gd K H x cols one two) : (pbOf cols one two).n ≤ 6 := Nat.le_trans (steps_le cols one two) h.le
theorem Gd.sl {K : PySem.W.Frag} {H : Hp} {x : Addr} {cols : List Str} {one two : Rws} (h : Gd K H x cols one two) : (sentsL cols one two).length ≤ 1000 := sents_len h.hc.le (by have := h.le; omega)
theorem Gd.nr {K : PySem.W.Frag} {H : Hp} {x : Addr} {cols : List Str} {one two : Rws} (h : Gd K H x cols one two) : NoRing (sentsL cols one two) := let ⟨_, o⟩ := h.od; no_ring o
theorem Gd.ok {K : PySem.W.Frag} {H : Hp} {x : Addr} {cols : List Str} {one two : Rws} (h : Gd K H x cols one two) : (pbOf cols one two).Ok := pb_ok h.pl
section
variable {P : Program} {w : World} {K : PySem.W.Frag} {mg : Str → Option Value} {base : Heap}
/-- a ground made of an exchange -/
theorem gd_make {H : Hp} {x : Addr} {cols : List Str} {one two : Rws} {Q : Addr → Hp → Prop} (h : Gd K H x cols one two) (k : ∀ H' g, Same H H' → H g = none → GrAt K H' g (pbOf cols one two) → Q g H') :
    ∀ g dx, H g = none → H dx = none → dx ≠ g → sp_Gr_init K [.ref g, .ref x] (upd (upd H dx (.own g)) g (.ins (ga K "Ground") dx [])) (fun v H2 => v = .non ∧ Q g H2) E0 := fun g dx hg hdx hne => by
  have e1 : Same H (upd (upd H dx (.own g)) g (.ins (ga K "Ground") dx [])) := ((Same.refl _).new hdx).new (by rw [upd_ne hne.symm]; exact hg)
  have h6 := h.le
  exact ⟨g, x, dx, cols, one, two, rfl, upd_same, Same.ex e1 h.ex, h.hc, h.h1, by omega, h.sl, h.ok, fun H2 b2 hgr => ⟨rfl, k H2 g (made_same hg hdx b2) hg hgr⟩⟩
def sp_barred (K : PySem.W.Frag) : Sp := fun vs H Q _ => ∃ x cols one two, ∃ top : Int, vs = [.ref x, .int top] ∧ Gd K H x cols one two ∧
  (Reach (pbOf cols one two) top (whole (pbOf cols one two).n) → ∀ H', Same H H' → Q .non H') ∧
  (¬ Reach (pbOf cols one two) top (whole (pbOf cols one two).n) → ∀ H' t vs', Same H H' → H t = none → H' t = some (.tup vs') → Paired (TupP H') vs' (due (pbOf cols one two) top) → Q (.ref t) H')
theorem sc_barred : FnScope ["exchange", "most", "ground"] ["exchange", "most"] (defScope s_barred) := ⟨rfl, rfl, rfl, by decide +kernel, rfl, by decide +kernel, by decide +kernel⟩
theorem body_barred (T : Tx K mg) : BodyOk P w K mg base ["exchange", "most", "ground"] "barred" s_barred (ga K "barred") (11 - 1) (sp_barred K) := fun cdv A outer s H vs Q E hr h => by
  obtain ⟨x, cols, one, two, top, rfl, hd, k1, k2⟩ := h
  have nd := sc_barred.nd
  have hu := hu_of hr
  have h6 := hd.le
  refine ⟨_, (pss_cons (ps_expr (C8.pe_c (ok_need_orders T) hr (by decide) rfl (pa_cons (pv 0) pa_nil)))
      (pss_cons (ps_set (i := 2) nd rfl (Or.inl rfl) (C8.pe_mk (ok_Ground_init T) hr (by decide) rfl (pa_cons (pv 0) pa_nil)))
      (pss_one (ps_ret (pe_ifExp (pt_cmpR op_le (pe_dget hu (C8.pe_mt0 (ok_Ground_needs T) hr (by decide) (pv 2)) pe_int (fun _ _ => rfl)) (pv 1) (nomark _)) pe_non (C8.pe_mt (ok_Ground_reached T) hr (by decide) (pv 2) (pa_cons (pv 1) pa_nil))))))), ?_⟩
  walk_at "nf"
  refine ⟨_, rfl, x, cols, one, two, rfl, hd.ex, by omega, hd.sl, hd.nr, fun H1 e1 => ⟨_, rfl, gd_make (Same.gd e1 hd) fun H2 g e2 hg0 hg => ?_⟩⟩
  obtain ⟨dx, lg, lb, la, g1, _⟩ := hg.ex
  refine ⟨_, rfl, g, dx, _, rfl, g1, by rfl, g, _, rfl, hg, hd.ok, hd.n6, fun H3 d kvs e3 hd0 hd3 hkn => ?_⟩
  have hdg := DGet.k (k := Sum.inl (((0 : Nat) : Nat) : Int)) hd3
  rw [hkn 0 ⟨0, .zero⟩] at hdg
  refine ⟨d, _, rfl, hdg, _, rfl, _, _, rfl, rfl, _, rfl, ?_⟩
  obtain ⟨f, hf⟩ := hd.od
  have hz := need_zero (top := top) hd.ok hf fun j m h => needs_ok h
  by_cases hr0 : Reach (pbOf cols one two) top (whole (pbOf cols one two).n)
  · rw [decide_eq_true (hz.mpr hr0)]
    exact iteT (k1 hr0 _ ((e1.trans e2).trans e3))
  · rw [decide_eq_false (fun z => hr0 (hz.mp z))]
    refine iteF ⟨_, rfl, g, dx, _, rfl, e3 _ _ g1, by rfl, _, rfl, g, _, top, rfl, Same.gr e3 hg, hd.ok, hd.n6, fun H4 t vs' e4 ht0 ht hp => ?_⟩
    exact k2 hr0 _ t vs' (((e1.trans e2).trans e3).trans e4) (((e1.trans e2).trans e3).free ht0) ht hp
theorem barred_len {vs : List V} {H : Hp} {Q : VK} {E : XK} (h : sp_barred K vs H Q E) : vs.length = (["exchange", "most"] : List Str).length := by
  obtain ⟨x, cols, one, two, top, rfl, _⟩ := h
  rfl
theorem ok_barred (T : Tx K mg) : C8.Cal P w K mg base 11 "barred" (sp_barred K) [] := cal_of T.f_barred T.g_barred sc_barred (fun _ _ _ _ _ _ us hl => match us, hl with | [_, _], _ => rfl) (fun vs H Q E h => barred_len h) (body_barred T)
theorem okK_barred (T : Tx K mg) : CalK P w K mg base 11 "barred" (sp_barred K) 0 ["exchange", "most"] (fun vs zs => vs ++ zs) :=
  calk_of (g := fun us ws => us ++ ws) T.f_barred T.g_barred sc_barred (fun _ _ _ _ _ _ us ws h1 h2 => match us, h1, ws, h2 with | [], _, [_, _], _ => rfl) (fun r1 r2 => r1.append r2) (fun vs H Q E h => barred_len h) (body_barred T)
end
end NS
set_option Elab.async false
set_option linter.all false
set_option maxRecDepth 100000
set_option maxHeartbeats 4000000
/-! shows_barred. -/
namespace NS
open PySem PySem.Spec PyProof.Rows L2 He
local macro_rules | `(tactic| walk_at "nf") => `(tactic| dsimp only [L2.tNext, L2.tSeq, L2.tDrop, L2.tRet, L2.tRetN, L2.tIfS, L2.tAsg, L2.gName, L2.gCons, L2.gNil, L2.gTup, L2.tOp, L2.tUn, L2.tTest, L2.tChain, L2.tB, L2.tAnd, L2.tOr, L2.tNot, L2.tAndV, L2.tOrV, L2.tNotV, L2.tIf, L2.tCB, L2.tNil, L2.tCons, L2.tTup, L2.tLst, L2.tFld, L2.sFld, L2.tCall, L2.tMeth, L2.tMake, L2.tBM, L2.tBM0, L2.tM1, L2.tM0, L2.tSl, L2.tPart, L2.tNoPart, L2.tPar, L2.tVar, L2.tC, L2.cxOf, L2.tYes, C8.tCut])
theorem any_go {K : PySem.W.Frag} {H0 H : Hp} {a : Addr} {xs : List V} {i : Nat} {σ : L2.St} {R : It → Hp → Prop} (hv : σ[i]? = some (some (.ref a))) (e0 : Same H0 H) (ha : SqL K H0 a xs ∨ SqT K H0 a xs)
    (h : ∀ J G, Walk J xs.length G (YAt xs) → (∀ H', Same H0 H' → G H') → R J H) : iAny K i σ H R := by
  refine ⟨a, hv, ?_⟩
  rcases ha with ha | ha
  · exact .inl ⟨⟨_, Same.sql e0 ha⟩, h _ _ walk_list fun H' e => Same.sql e ha⟩
  · exact .inr ⟨⟨_, Same.tup e0 ha⟩, h _ _ walk_tup fun H' e => Same.tup e ha⟩
theorem val_inj {n : Nat} {s t : List Nat} (hs : Asc n 0 s) (ht : Asc n 0 t) (e : val n s = val n t) : s = t := by rw [← nums_val hs, ← nums_val ht, e]
theorem asc_full {n : Nat} {s : List Nat} (h : Asc n 0 s) (hl : n ≤ s.length) : s = List.range n := by
  refine asc_ext h.pairwise List.pairwise_lt_range fun k => ?_
  rw [List.mem_range]
  constructor
  · intro hk
    exact (Asc.lt h k hk).2
  · intro hk
    refine Classical.byContradiction fun hn => ?_
    have := len_sub (l := k :: s) (m := List.range n) (List.nodup_cons.mpr ⟨hn, h.nodup⟩) fun x hx => by
      rw [List.mem_range]
      rcases List.mem_cons.mp hx with rfl | hx
      · exact hk
      · exact (Asc.lt h x hx).2
    rw [List.length_cons, List.length_range] at this
    omega
theorem trueK_val {l : List Nat} {x : Nat} : valV (trueK l) (Sum.inl ((x : Nat) : Int)) = if x ∈ l then some (.bl true) else none := by
  induction l with
  | nil => rfl
  | cons y r ih =>
    unfold trueK at ih ⊢
    rw [List.map_cons]
    by_cases h : y = x
    · subst h
      rw [valV_pos rfl, if_pos (List.mem_cons_self ..)]
    · rw [valV_neg (fun z => h (Int.ofNat_inj.mp (Sum.inl.inj z))), ih]
      have : ¬ x = y := fun z => h z.symm
      simp [this]
section
variable {P : Program} {w : World} {K : PySem.W.Frag} {mg : Str → Option Value} {base : Heap}
def sp_shows (K : PySem.W.Frag) : Sp := fun vs H Q _ => ∃ x cols one two th vs' l, ∃ top : Int, vs = [.ref x, .int top, .ref th] ∧ Gd K H x cols one two ∧ (SqL K H th vs' ∨ SqT K H th vs') ∧ Paired (TupP H) vs' l ∧ l.Nodup ∧ (∀ s, s ∈ l ↔ s ∈ due (pbOf cols one two) top) ∧
  ∀ H', Same H H' → Q (.bl (decide (List.range (pbOf cols one two).n ∉ l))) H'
theorem sc_shows_barred : FnScope ["exchange", "most", "thing", "ground", "known", "one", "standing", "later"] ["exchange", "most", "thing"] (defScope s_shows_barred) := ⟨rfl, rfl, rfl, by decide +kernel, rfl, by decide +kernel, by decide +kernel⟩
theorem body_shows (T : Tx K mg) : BodyOk P w K mg base ["exchange", "most", "thing", "ground", "known", "one", "standing", "later"] "shows_barred" s_shows_barred (ga K "shows_barred") (11 - 1) (sp_shows K) := fun cdv A outer s H vs Q E hr h => by
  obtain ⟨x, cols, one, two, th, vs', l, top, rfl, hd, hth, hvp, hln, hlm, k⟩ := h
  have nd := sc_shows_barred.nd
  have hu := hu_of hr
  have h6 := hd.le
  have hpow : 2 ^ (pbOf cols one two).n ≤ 2 ^ 6 := Nat.pow_le_pow_right (by decide) hd.n6
  refine ⟨_, (pss_cons (ps_expr (C8.pe_c (ok_need_orders T) hr (by decide) rfl (pa_cons (pv 0) pa_nil)))
      (pss_cons (ps_set (i := 3) nd rfl (Or.inl rfl) (C8.pe_mk (ok_Ground_init T) hr (by decide) rfl (pa_cons (pv 0) pa_nil)))
      (pss_cons (ps_if (pt_not (pt_val (pe_callB call_isiT (by rfl) T.z_isinstance (by decide +kernel) (pa_cons (pv 2) (pa_cons (pe_tup (pa_cons (pe_bltn (v := .ty "list") (u := .type "list") rfl T.z_list (by decide +kernel) rfl) (pa_cons (pe_bltn (v := .ty "tuple") (u := .type "tuple") rfl T.z_tuple (by decide +kernel) rfl) pa_nil))) pa_nil))))) (pss_one (ps_ret pe_bl)) pss_nil)
      (pss_cons (ps_set (i := 4) nd rfl (Or.inr rfl) pe_dnewK)
      (pss_cons (ps_for PassesOwn.never rfl (pi_any (pv 2)) (pg_name (i := 5) nd rfl (Or.inl rfl))
      (pss_cons (ps_set (i := 6) nd rfl (Or.inl rfl) (C8.pe_mt (ok_Ground_standing_of T) hr (by decide) (pv 3) (pa_cons (pv 5) pa_nil)))
      (pss_cons (ps_if (PW.pt (pw_or (pt_cmpR op_isN (pv 6) pe_non (nomark _)) (pw_or (pt_cmp (pc_din hu (pv 6) (pv 4))) (pw_or1 (pt_cmpR op_gt (C8.pe_mt (ok_Ground_rows_at T) hr (by decide) (pv 3) (pa_cons (pv 6) pa_nil)) (pv 1) (nomark _)))))) (pss_one (ps_ret pe_bl)) pss_nil)
      (pss_one (ps_dput hu (pv 4) (pv 6) pe_bl rfl)))))
      (C8.pss_cut (ps_if (PW.pt (pw_and (pt_cmpR op_le (pe_fld (pv 3) rfl) (pv 1) (nomark _)) (pw_and1 (pt_cmp (pc_dnotin hu pe_int (pv 4)))))) (pss_one (ps_ret pe_bl)) pss_nil)
      (pss_cons (ps_lock (ps_for PassesOwn.never rfl (pi_keys (pv 4)) (pg_name (i := 6) nd rfl (Or.inl rfl))
      (pss_one (ps_if (pt_not (pt_val (pe_callB (cr_all rfl) (by rfl) T.z_all (by decide +kernel) (pa_cons (pe_lc (own := [("later", 7)]) rfl nd (pi_list (C8.pe_mt (ok_Ground_steps_within T) hr (by decide) (pv 3) (pa_cons (pv 6) (pa_cons (pv 1) pa_nil)))) (blkOk_by (by kernel_rfl)) (fun _ _ _ _ _ => (pg_name (i := 7) nd rfl (Or.inl rfl))) (fun _ _ _ _ _ => pts_nil) (fun _ _ _ _ _ => (pe_cmp (pc_din hu (pv 7) (pv 4)) rfl))) pa_nil)))) (pss_one (ps_ret pe_bl)) pss_nil))))
      (pss_one (ps_ret pe_bl))))))))), ?_⟩
  walk_at "nf"
  have ok := hd.ok
  have n6 := hd.n6
  refine ⟨_, rfl, x, cols, one, two, rfl, hd.ex, by omega, hd.sl, hd.nr, fun H1 e1 => ⟨_, rfl, gd_make (Same.gd e1 hd) fun H2 g e2 hg0 hg => ?_⟩⟩
  have e02 := e1.trans e2
  generalize hp : pbOf cols one two = p at *
  obtain ⟨dx, lg, lb, la, g1, _⟩ := hg.ex
  -- isinstance
  have k1 : PySem.W.kitAny K (.type "list") [.type "list", .type "tuple"] = some true := by
    unfold PySem.W.kitAny
    rw [kit_ty (r := true) (by decide +kernel)]
  have k2 : PySem.W.kitAny K (.type "tuple") [.type "list", .type "tuple"] = some true := by
    unfold PySem.W.kitAny
    rw [kit_ty (r := false) (by decide +kernel)]
    unfold PySem.W.kitAny
    rw [kit_ty (r := true) (by decide +kernel)]
  have hk : ∀ {H : Hp}, (SqL K H th vs' ∨ SqT K H th vs') → ∃ t, TyX K H (.ref th) t ∧ PySem.W.kitAny K t [.type "list", .type "tuple"] = some true := by
    rintro H (ha | ha)
    · exact ⟨_, ty_sql ha, k1⟩
    · exact ⟨_, ty_sqt ha, k2⟩
  refine ⟨_, rfl, by decide, fun tp htp => ?_⟩
  have e3 := e02.new (o := .tup [.ty "list", .ty "tuple"]) htp
  obtain ⟨t, ht, hk⟩ := hk (Same.seq e3 hth)
  refine ⟨_, tp, _, t, _, true, rfl, upd_same, .cons (.ty _) (.cons (.ty _) .nil), ht, hk, ⟨_, rfl, ?_⟩⟩
  have hg3 := Same.gr ((Same.refl H2).new (o := .tup [.ty "list", .ty "tuple"]) htp) hg
  generalize upd H2 tp (.tup [.ty "list", .ty "tuple"]) = H3 at e3 hg3
  obtain ⟨dx, lg, lb, la, g1, _⟩ := hg3.ex
  rw [Bool.not_true]
  refine iteF ?_
  unfold L2.tDNewK
  intro D hD
  have e4 := e3.new (o := .dK []) hD
  have e34 : Same H3 (upd H3 D (.dK [])) := (Same.refl _).new hD
  have hlen : vs'.length = l.length := hvp.length
  have hlA : ∀ s ∈ l, Asc p.n 0 s ∧ Reach p top (val p.n s) := fun s hs => mem_due.mp ((hlm s).mp hs)
  have hvl : (l.map (val p.n)).Nodup := by
    unfold List.Nodup
    rw [List.pairwise_map]
    exact List.Pairwise.imp_of_mem (fun {a b} ha hb (h : a ≠ b) z => h (val_inj (hlA a ha).1 (hlA b hb).1 z)) hln
  have hbound : ∀ i, (trueK ((l.take i).map (val p.n))).length ≤ 64 := fun i => by
    have htl : (trueK ((l.take i).map (val p.n))).length = ((l.take i).map (val p.n)).length := List.length_map ..
    have h1 := nodup_lt (n := 2 ^ p.n) hvl fun y hy => by
      obtain ⟨s, hs, rfl⟩ := List.mem_map.mp hy
      exact (hlA s hs).2.lt
    rw [List.length_map] at h1
    rw [htl, List.length_map, List.length_take]
    omega
  refine any_go (i := 2) rfl e34 (Same.seq e3 hth) fun J G wk hG => ?_
  refine for_it wk (fun i σ H' => ∃ o5 o6 : Option V, σ = [some (.ref x), some (.int top), some (.ref th), some (.ref g), some (.ref D), o5, o6, none] ∧ Same H3 H' ∧ H' D = some (.dK (trueK ((l.take i).map (val p.n)))) ∧ ∀ s ∈ l.take i, s.length < p.n)
    ⟨none, none, rfl, e34, upd_same, fun s hs => by simp at hs⟩ (fun i σ H' _ ⟨_, _, _, e, _⟩ => hG _ e) ?_ ?_
  · rintro i v σ H4 H5 hi ⟨o5, o6, rfl, e4, hD4, hsh⟩ ⟨rfl, hv⟩
    obtain ⟨s, hs, t0, rfl, ht0⟩ := paired_get hvp hv
    have hsm := List.mem_of_getElem? hs
    obtain ⟨hsA, hsR⟩ := hlA s hsm
    have e04 := e3.trans e4
    walk_at "nf"
    refine ⟨_, rfl, g, dx, _, rfl, e4 _ _ g1, by rfl, _, rfl, g, p, t0, s, rfl, Same.gr e4 hg3, ok, by omega, SqT.of (e04 _ _ ht0), hsA, hsR.strict ok, fun H5 e5 => ?_⟩
    have hD5 := e5 _ _ hD4
    have e05 := e4.trans e5
    by_cases hge : p.n ≤ s.length
    · have hw : s = List.range p.n := asc_full hsA hge
      have hst : stV p s = .non := if_pos hge
      rw [hst]
      refine ⟨_, rfl, rfl, _, rfl, iteT (iteT ?_)⟩
      have := k _ (e3.trans e05)
      rw [decide_eq_false (fun z => z (by rw [← hw]; exact hsm))] at this
      exact this
    · have hst : stV p s = .int (val p.n s : Nat) := if_neg hge
      rw [hst]
      have hnot : val p.n s ∉ (l.take i).map (val p.n) := fun z => by
        obtain ⟨s', hs', e'⟩ := List.mem_map.mp z
        obtain ⟨j, hj⟩ := List.mem_iff_getElem?.mp hs'
        have hji : j < i := by
          have := (List.getElem?_eq_some_iff.mp hj).1
          rw [List.length_take] at this
          omega
        have hj2 : l[j]? = some s' := by rwa [List.getElem?_take_of_lt hji] at hj
        have := val_inj (hlA s' (List.mem_of_getElem? hj2)).1 hsA e'
        rw [this] at hj2
        have := (List.getElem?_inj (List.getElem?_eq_some_iff.mp hj2).1 hln).mp (hj2.trans hs.symm)
        omega
      have hdg := DGet.k (k := Sum.inl ((val p.n s : Nat) : Int)) hD5
      rw [trueK_val, if_neg hnot] at hdg
      refine ⟨_, rfl, rfl, _, rfl, iteF ⟨_, rfl, _, rfl, D, _, rfl, hdg, _, rfl, iteF ?_⟩⟩
      refine ⟨_, rfl, g, dx, _, rfl, e05 _ _ g1, by rfl, _, rfl, g, p, val p.n s, rfl, Same.gr e05 hg3, by omega, fun H6 e6 => ⟨_, rfl, _, _, rfl, rfl, _, rfl, ?_⟩⟩
      rw [decide_eq_false (show ¬ top < p.rows (val p.n s) by have := hsR.rows; omega)]
      have hD6 := e6 _ _ hD5
      have hb := hbound i
      dsimp only [L2.sDPut, L2.tC, L2.tVar]
      refine iteF ⟨_, rfl, _, rfl, D, _, rfl, DPut.k (k := Sum.inl ((val p.n s : Nat) : Int)) hD6 (lt_size (by omega)), _, _, rfl, (e05.trans e6).mut hD, ?_, fun s' hs' => ?_⟩
      · rw [upd_same, put_true]
        unfold ins
        rw [if_neg hnot, List.take_succ, hs, List.map_append]
        rfl
      · rw [List.take_succ, hs] at hs'
        rcases List.mem_append.mp hs' with h | h
        · exact hsh s' h
        · have h : s' = s := by simpa using h
          rw [h]
          omega
  · rintro σ H4 ⟨o5, o6, rfl, e4, hD4, hsh⟩
    rw [hlen, List.take_length] at hD4 hsh
    have hnw : List.range p.n ∉ l := fun z => by
      have := hsh _ z
      rw [List.length_range] at this
      omega
    have fin : ∀ H', Same H3 H' → Q (.bl true) H' := fun H' e => by
      have := k H' (e3.trans e)
      rwa [decide_eq_true hnw] at this
    have hmem0 : p.begun ≤ top → (0 : Nat) ∈ l.map (val p.n) := fun hb => List.mem_map.mpr ⟨[], (hlm []).mpr (mem_due.mpr ⟨trivial, .zero hb⟩), rfl⟩
    walk_at "nf"
    refine ⟨fun σ' H' => σ' = [some (.ref x), some (.int top), some (.ref th), some (.ref g), some (.ref D), o5, o6, none] ∧ H' = H4, ?_, ?_⟩
    · refine ⟨_, rfl, g, _, dx, _, _, rfl, e4 _ _ g1, T.cl_Ground, T.n_Ground_begun, by rfl, _, rfl, _, _, rfl, rfl, _, rfl, ?_⟩
      by_cases hb : p.begun ≤ top
      · have hdg := DGet.k (k := Sum.inl (((0 : Nat) : Nat) : Int)) hD4
        rw [trueK_val, if_pos (hmem0 hb)] at hdg
        rw [decide_eq_true hb]
        exact iteT ⟨_, rfl, D, _, rfl, hdg, _, rfl, iteF ⟨rfl, rfl⟩⟩
      · rw [decide_eq_false hb]
        exact iteF (iteF ⟨rfl, rfl⟩)
    · rintro σ' H4' ⟨rfl, rfl⟩
      refine ⟨D, _, hD4, True.intro, fun od => ?_⟩
      have eF : Same H3 (upd H4' D (.frz od (.dK (trueK (l.map (val p.n)))))) := e4.mut hD
      have hF : upd H4' D (.frz od (.dK (trueK (l.map (val p.n))))) D = some (.frz od (.dK (trueK (l.map (val p.n))))) := upd_same
      generalize upd H4' D (.frz od (.dK (trueK (l.map (val p.n))))) = HF at eF hF
      refine ⟨_, rfl, D, od, rfl, .inl ⟨_, hF, ?_⟩⟩
      refine for_it walk_keys (fun i σ H' => ∃ o6 : Option V, σ = [some (.ref x), some (.int top), some (.ref th), some (.ref g), some (.ref D), o5, o6, none] ∧ Same HF H') ⟨o6, rfl, Same.refl _⟩ (fun i σ H' _ ⟨_, _, e⟩ => e _ _ hF) ?_ ?_
      · rintro i v σ H5 H6 hi ⟨r6, rfl, e5⟩ ⟨rfl, k0, v0, hk0, rfl⟩
        unfold trueK at hk0
        rw [List.getElem?_map] at hk0
        obtain ⟨y, hy, ey⟩ := Option.map_eq_some_iff.mp hk0
        cases ey
        obtain ⟨s, hs, rfl⟩ := List.mem_map.mp (List.mem_of_getElem? hy)
        have e35 := eF.trans e5
        walk_at "nf"
        refine ⟨_, rfl, g, dx, _, rfl, e35 _ _ g1, by rfl, _, rfl, _, rfl, g, p, val p.n s, top, rfl, Same.gr e35 hg3, ok, by omega, fun H7 L e7 hL0 hL => ⟨L, rfl, ⟨_, SqL.of hL⟩, fun D2 hD2 => ?_⟩⟩
        have hwl : (p.within top (val p.n s)).length ≤ 40 := by
          have h1 := nxt_len p (val p.n s)
          have h2 : (p.within top (val p.n s)).length ≤ ((p.nxt (val p.n s)).map fun k => val p.n s ||| bit p.n k).length := List.length_filter_le ..
          rw [List.length_map] at h2
          omega
        refine lc_go (walk_list (xs := natsV (p.within top (val p.n s)))) hD2 (fun i acc _ => acc = List.replicate i (V.bl true)) (fun H8 e8 => SqL.of (e8 _ _ hL)) rfl ?_ ?_
        · rintro j v H8 H9 acc hj e8 hDD hlen2 hacc ⟨rfl, hv⟩
          obtain ⟨y, hy, rfl⟩ := get_natsV hv
          rw [natsV_len] at hj
          obtain ⟨kk, hkk, rfl, hrr⟩ := mem_within.mp (List.mem_of_getElem? hy)
          have hR := Reach.step (hlA s hs).2 hkk hrr
          have hin : val p.n s ||| bit p.n kk ∈ l.map (val p.n) := List.mem_map.mpr ⟨nums p.n (val p.n s ||| bit p.n kk), (hlm _).mpr (mem_due.mpr ⟨nums_asc _ _, by rw [val_nums hR.lt]; exact hR⟩), val_nums hR.lt⟩
          walk_at "nf"
          refine ⟨rfl, ?_⟩
          rw [if_pos rfl]
          have hdg : DGet H9 D (.int ((val p.n s ||| bit p.n kk : Nat) : Int)) (valV (trueK (l.map (val p.n))) (Sum.inl ((val p.n s ||| bit p.n kk : Nat) : Int))) := .inl ⟨_, Sum.inl _, .inr ⟨od, (e5.trans (e7.trans e8)) _ _ hF⟩, rfl, rfl⟩
          rw [trueK_val, if_pos hin] at hdg
          refine ⟨_, rfl, _, rfl, D, _, rfl, hdg, lc_put hD2 hDD e8 hlen2 (by omega) id ?_⟩
          rw [hacc, List.replicate_succ']
          rfl
        · rintro H8 acc e8 hDD hacc
          rw [natsV_len] at hacc
          refine ⟨D2, List.replicate (p.within top (val p.n s)).length true, rfl, SqL.of (by rw [hDD, hacc]; simp), ?_⟩
          have ea : (List.replicate (p.within top (val p.n s)).length true).all id = true := by simp
          refine ⟨_, rfl, ?_⟩
          rw [ea, Bool.not_true]
          exact iteF ⟨_, rfl, e5.trans (e7.trans e8)⟩
      · rintro σ H5 ⟨r6, rfl, e5⟩
        exact ⟨e5 _ _ hF, fin _ ((eF.trans e5).mut hD)⟩
theorem shows_len {vs : List V} {H : Hp} {Q : VK} {E : XK} (h : sp_shows K vs H Q E) : vs.length = (["exchange", "most", "thing"] : List Str).length := by
  obtain ⟨x, cols, one, two, th, vs', l, top, rfl, _⟩ := h
  rfl
theorem ok_shows_barred (T : Tx K mg) : C8.Cal P w K mg base 11 "shows_barred" (sp_shows K) [] := cal_of T.f_shows_barred T.g_shows_barred sc_shows_barred (fun _ _ _ _ _ _ us hl => match us, hl with | [_, _, _], _ => rfl) (fun vs H Q E h => shows_len h) (body_shows T)
def turn3 {α : Type} : List α → List α
  | [a, b, c] => [c, b, a]
  | l => l
theorem okK_shows_barred (T : Tx K mg) : CalK P w K mg base 11 "shows_barred" (sp_shows K) 0 ["thing", "most", "exchange"] (fun vs zs => vs ++ turn3 zs) :=
  calk_of (g := fun us ws => us ++ turn3 ws) T.f_shows_barred T.g_shows_barred sc_shows_barred (fun _ _ _ _ _ _ us ws h1 h2 => match us, h1, ws, h2 with | [], _, [_, _, _], _ => rfl) (fun r1 r2 => r1.append (by
    match r2 with
    | .nil => exact .nil
    | .cons a .nil => exact .cons a .nil
    | .cons a (.cons b .nil) => exact .cons a (.cons b .nil)
    | .cons a (.cons b (.cons c .nil)) => exact .cons c (.cons b (.cons a .nil))
    | .cons a (.cons b (.cons c (.cons d r))) => exact .cons a (.cons b (.cons c (.cons d r))))) (fun vs H Q E h => shows_len h) (body_shows T)
end
end NS
set_option Elab.async false
set_option linter.all false
set_option maxRecDepth 100000
set_option maxHeartbeats 4000000
/-! The law's subsets. -/
namespace NS
open PySem PySem.Spec PyProof.Rows L2 He
local macro_rules | `(tactic| walk_at "nf") => `(tactic| dsimp only [L2.tNext, L2.tSeq, L2.tDrop, L2.tRet, L2.tRetN, L2.tIfS, L2.tAsg, L2.gName, L2.gCons, L2.gNil, L2.gTup, L2.tOp, L2.tUn, L2.tTest, L2.tChain, L2.tB, L2.tAnd, L2.tOr, L2.tNot, L2.tAndV, L2.tOrV, L2.tNotV, L2.tIf, L2.tCB, L2.tNil, L2.tCons, L2.tTup, L2.tLst, L2.tFld, L2.sFld, L2.tCall, L2.tMeth, L2.tMake, L2.tBM, L2.tBM0, L2.tM1, L2.tM0, L2.tSl, L2.tPart, L2.tNoPart, L2.tPar, L2.tVar, L2.tC, L2.cxOf, L2.tYes, C8.tCut])
theorem grow_snoc {s : List Nat} {i : Nat} : (((List.range (i + 1)).filter (fits s)).map fun k => s ++ [k]) = (((List.range i).filter (fits s)).map fun k => s ++ [k]) ++ if fits s i = true then [s ++ [i]] else [] := by
  rw [List.range_succ, List.filter_append, List.map_append, List.filter_cons]
  cases fits s i <;> rfl
theorem val_subs (n : Nat) : ((subs n).map (val n)).Nodup := by
  unfold List.Nodup
  rw [List.pairwise_map]
  unfold subs
  rw [List.pairwise_flatMap]
  constructor
  · intro j _
    have := pw_val (n := n) j
    rw [List.pairwise_map] at this
    exact this.imp fun {a b} (h : _ > _) => Nat.ne_of_gt h
  · refine List.Pairwise.imp_of_mem (fun {a b} ha hb (h : a < b) x hx y hy e => ?_) List.pairwise_lt_range
    obtain ⟨x1, x2⟩ := mem_lay.mp hx
    obtain ⟨y1, y2⟩ := mem_lay.mp hy
    have := val_inj x2 y2 e
    rw [this] at x1
    omega
theorem subs_nd (n : Nat) : (subs n).Nodup := by
  have h := val_subs n
  unfold List.Nodup at h ⊢
  rw [List.pairwise_map] at h
  exact h.imp fun h e => h (by rw [e])
theorem subs_len {n : Nat} (h : n ≤ 6) : (subs n).length ≤ 64 ∧ (∀ j, (lay n j).length ≤ 64) ∧ ∀ i, i ≤ n + 1 → ((List.range i).flatMap (lay n)).length ≤ 64 := by
  have hp : 2 ^ n ≤ 2 ^ 6 := Nat.pow_le_pow_right (by decide) h
  have key : ∀ l : List (List Nat), (l.map (val n)).Nodup → (∀ s ∈ l, Asc n 0 s) → l.length ≤ 64 := fun l h1 h2 => by
    have := nodup_lt (n := 2 ^ n) h1 fun x hx => by
      obtain ⟨s, hs, rfl⟩ := List.mem_map.mp hx
      exact val_bound (h2 s hs)
    rw [List.length_map] at this
    omega
  have hl : ∀ j, (lay n j).length ≤ 64 := fun j => key _ ((pw_val (n := n) j).imp fun {a b} (h : a > b) => Nat.ne_of_gt h) fun s hs => (mem_lay.mp hs).2
  have hs := key _ (val_subs n) fun s hs => mem_subs.mp hs
  refine ⟨hs, hl, fun i hi => ?_⟩
  refine Nat.le_trans ?_ hs
  obtain ⟨d, hd⟩ : ∃ d, n + 1 = i + d := ⟨n + 1 - i, by omega⟩
  unfold subs
  rw [hd, List.range_add, List.flatMap_append, List.length_append]
  omega
def growR (s : List Nat) (a : Nat) (acc : List V) (H : Hp) : Prop := Paired (TupP H) acc (((List.range a).filter (fits s)).map fun k => s ++ [k])
section
variable {P : Program} {w : World} {K : PySem.W.Frag} {mg : Str → Option Value} {base : Heap}
def sp_law_subsets : Sp := fun vs H Q _ => ∃ n : Nat, vs = [.int (n : Nat)] ∧ n ≤ 6 ∧ ∀ H' l vs', Same H H' → H l = none → H' l = some (.lst vs') → Paired (TupP H') vs' (subs n) → Q (.ref l) H'
theorem sc_law_subsets : FnScope ["_law_many", "_law_turn", "_law_found", "_law_layer", "_law_grown", "_law_some", "_law_k"] ["_law_many"] (defScope s_law_subsets) := ⟨rfl, rfl, rfl, by decide +kernel, rfl, by decide +kernel, by decide +kernel⟩
theorem ok_law_subsets (T : Tx K mg) : C8.Cal P w K mg base 1 "_law_subsets" sp_law_subsets [] := by
  refine cal_of T.f_law_subsets T.g_law_subsets sc_law_subsets (fun _ _ _ _ _ _ us hl => match us, hl with | [_], _ => rfl) (fun vs H Q E h => ?_) (fun cdv A outer s H vs Q E hr h => ?_)
  · obtain ⟨n, rfl, _⟩ := h
    rfl
  · obtain ⟨n, rfl, hn, k⟩ := h
    have nd := sc_law_subsets.nd
    have hu := hu_of hr
    obtain ⟨_, hlay, hrng⟩ := subs_len hn
    refine ⟨_, (pss_cons (ps_par (i := 2) (j := 3) rfl nd rfl rfl (by decide) rfl rfl (pa_cons (pe_lst (pa_cons (pe_tup pa_nil) pa_nil)) (pa_cons (pe_lst (pa_cons (pe_tup pa_nil) pa_nil)) pa_nil)) (by rfl))
      (pss_cons (ps_for PassesOwn.never rfl (pi_range1 rfl T.z_range (pa_cons (pv 0) pa_nil)) (pg_name (i := 1) nd rfl (Or.inl rfl))
      (pss_cons (ps_set (i := 4) nd rfl (Or.inl rfl) (pe_lst pa_nil))
      (pss_cons (ps_for PassesOwn.never rfl (pi_list (pv 3)) (pg_name (i := 5) nd rfl (Or.inr rfl))
      (pss_one (ps_set (i := 4) nd rfl (Or.inl rfl) (pe_op op_cat (pv 4) (pe_lc (own := [("_law_k", 6)]) rfl nd (pi_range1 rfl T.z_range (pa_cons (pv 0) pa_nil)) (blkOk_by (by kernel_rfl)) (fun _ _ _ _ _ => (pg_name (i := 6) nd rfl (Or.inl rfl))) (fun _ _ _ _ _ => (pts_one (PW.pt (pw_or (pt_cmpR (show OpR _ (compareOp .Eq) (rEqD K) from op_eqD hr.units) (pv 5) (pe_tup pa_nil) (nomark _)) (pw_or1 (pt_cmpR op_gt (pv 6) (pe_ix (show IxR _ (rIxT K) from ix_tup) (pv 5) (pe_un un_neg pe_int) (fun _ _ => rfl)) (nomark _))))))) (fun _ _ _ _ _ => (pe_op (show OpR _ (binaryOp .Add) (rCatA K) from op_catA) (pv 5) (pe_tup (pa_cons (pv 6) pa_nil)))))))))
      (pss_one (ps_par (i := 2) (j := 3) rfl nd rfl rfl (by decide) rfl rfl (pa_cons (pe_op op_cat (pv 2) (pv 4)) (pa_cons (pv 4) pa_nil)) (by rfl))))))
      (pss_one (ps_ret (pv 2))))), ?_⟩
    walk_at "nf"
    refine ⟨Nat.zero_le _, fun p1 hp1 => ⟨(by show 1 ≤ sizeLine; decide), fun F0 hF0 => ⟨Nat.zero_le _, fun p2 hp2 => ⟨(by show 1 ≤ sizeLine; decide), fun L0 hL0 => ⟨_, _, rfl, ?_⟩⟩⟩⟩⟩
    have e0 : Same H (upd (upd (upd (upd H p1 (.tup [])) F0 (.lst [.ref p1])) p2 (.tup [])) L0 (.lst [.ref p2])) := ((((Same.refl H).new hp1).trans ((Same.refl _).new hF0)).trans ((Same.refl _).new hp2)).trans ((Same.refl _).new hL0)
    have eL := (Same.refl _).new (o := .lst [.ref p2]) hL0
    have h2 : upd (upd (upd (upd H p1 (.tup [])) F0 (.lst [.ref p1])) p2 (.tup [])) L0 (.lst [.ref p2]) p2 = some (.tup []) := eL _ _ upd_same
    have eP := ((Same.refl _).new (o := .tup []) hp2).trans eL
    have hF : upd (upd (upd (upd H p1 (.tup [])) F0 (.lst [.ref p1])) p2 (.tup [])) L0 (.lst [.ref p2]) F0 = some (.lst [.ref p1]) := eP _ _ upd_same
    have h1 : upd (upd (upd (upd H p1 (.tup [])) F0 (.lst [.ref p1])) p2 (.tup [])) L0 (.lst [.ref p2]) p1 = some (.tup []) := (((Same.refl _).new (o := .lst [.ref p1]) hF0).trans eP) _ _ upd_same
    have hL : upd (upd (upd (upd H p1 (.tup [])) F0 (.lst [.ref p1])) p2 (.tup [])) L0 (.lst [.ref p2]) L0 = some (.lst [.ref p2]) := upd_same
    have hF0n : H F0 = none := ((Same.refl H).new hp1).free hF0
    generalize upd (upd (upd (upd H p1 (.tup [])) F0 (.lst [.ref p1])) p2 (.tup [])) L0 (.lst [.ref p2]) = H1 at e0 h2 hF h1 hL
    clear eL eP hL0 hp2 hF0 hp1
    refine ⟨_, rfl, _, rfl, by omega, by omega, ?_⟩
    rw [Int.toNat_natCast]
    refine for_it (walk_rngL (n := n)) (fun i σ H' => ∃ (F L : Addr) (vF vL : List V) (o1 o4 o5 o6 : Option V), σ = [some (.int (n : Nat)), o1, some (.ref F), some (.ref L), o4, o5, o6] ∧ Same H H' ∧ H F = none ∧ H' F = some (.lst vF) ∧ Paired (TupP H') vF ((List.range (i + 1)).flatMap (lay n)) ∧ H' L = some (.lst vL) ∧ Paired (TupP H') vL (lay n i))
      ⟨F0, L0, [.ref p1], [.ref p2], none, none, none, none, rfl, e0, hF0n, hF, .cons ⟨p1, rfl, h1⟩ .nil, hL, .cons ⟨p2, rfl, h2⟩ .nil⟩ (fun i σ H' _ _ => True.intro) ?_ ?_
    · rintro i v σ H3 H4 hi ⟨F, L, vF, vL, o1, o4, o5, o6, rfl, e3, hFn, h3F, hvF, h3L, hvL⟩ ⟨rfl, rfl⟩
      walk_at "nf"
      refine ⟨Nat.zero_le _, fun G0 hG0 => ⟨_, rfl, L, rfl, ⟨_, SqL.of (((Same.refl _).new hG0) _ _ h3L)⟩, ?_⟩⟩
      have e4 := (Same.refl H4).new (o := .lst []) hG0
      have hlenL := hvL.length
      have hli := hlay i
      refine for_it (walk_list (xs := vL)) (fun j σ H' => ∃ (G : Addr) (vG : List V) (o5 o6 : Option V), σ = [some (.int (n : Nat)), some (.int (i : Nat)), some (.ref F), some (.ref L), some (.ref G), o5, o6] ∧ Same H4 H' ∧ H' G = some (.lst vG) ∧ Paired (TupP H') vG (((lay n i).take j).flatMap (grow n)) ∧ H4 G = none)
        ⟨G0, [], o5, o6, rfl, e4, upd_same, .nil, hG0⟩ (fun j σ H' _ ⟨_, _, _, _, _, e, _⟩ => SqL.of (e _ _ h3L)) ?_ ?_
      · rintro j v σ H5 H6 hj ⟨G, vG, o5, o6, rfl, e5, h5G, hvG, hGn⟩ ⟨rfl, hv⟩
        obtain ⟨s, hs, t, rfl, ht0⟩ := paired_get hvL hv
        have ht := e5 _ _ ht0
        have hsA := mem_lay.mp (List.mem_of_getElem? hs)
        walk_at "nf"
        refine ⟨_, rfl, _, rfl, _, rfl, by omega, by omega, fun D hD => ?_⟩
        rw [Int.toNat_natCast]
        refine lc_go (walk_rngL (n := n)) hD (growR s) (fun H7 e7 => True.intro) .nil ?_ ?_
        · rintro a v H7 H8 acc ha e8 hDD hlen2 hacc ⟨rfl, rfl⟩
          have ht8 := e8 _ _ ht
          have hsl : s.length ≤ 6 := by
            have := hsA.2.len (Nat.zero_le _)
            omega
          have app : fits s a = true → ∀ {H9 : Hp}, Same H8 H9 → ∀ u, H9 u = none → rCatA K (.ref t) (.ref u) (upd H9 u (.tup [.int (a : Nat)])) fun y H4 => ∃ acc, H4 D = some (.lst acc) ∧ acc.length < sizeLine ∧ PvL H6 D (growR s) (a + 1) (upd H4 D (.lst (acc ++ [y]))) := fun hfit H9 e9 u hu => by
            have e10 : Same H9 (upd H9 u (.tup [.int (a : Nat)])) := (Same.refl _).new hu
            have hu10 : upd H9 u (.tup [.int (a : Nat)]) u = some (.tup [.int (a : Nat)]) := upd_same
            generalize upd H9 u (.tup [.int (a : Nat)]) = H10 at e10 hu10
            have e810 := e9.trans e10
            have fin : ∀ {H' : Hp} (q2 : Addr), Same H8 H' → H' q2 = some (.tup (natsV (s ++ [a]))) → ∃ acc, H' D = some (.lst acc) ∧ acc.length < sizeLine ∧ PvL H6 D (growR s) (a + 1) (upd H' D (.lst (acc ++ [.ref q2]))) := fun {H'} q2 e hq2 => by
              have hD' := e _ _ hDD
              refine lc_put hD hD' (e8.trans e) hlen2 (by omega) (fun h => ?_) ?_
              · exact paired_imp (fun a b h => tup_put hD' (fun xs z => by cases z) h) h
              · show Paired _ _ _
                rw [grow_snoc, if_pos hfit]
                exact paired_snoc (paired_imp (fun a b h => Same.tupp e h) hacc) ⟨q2, rfl, hq2⟩
            refine ⟨t, u, natsV s, [.int (a : Nat)], rfl, rfl, SqT.of (e810 _ _ ht8), SqT.of hu10, le_size (by rw [natsV_len]; show s.length + 1 ≤ _; omega), fun e => ?_, fun _ e => (by cases e), fun _ _ z hz => ?_⟩
            · have hs0 : s = [] := by
                cases s with
                | nil => rfl
                | cons x r => cases e
              exact fin u e810 (by rw [hu10, hs0]; rfl)
            · exact fin z (e810.new hz) (by rw [upd_same, ← natsV_snoc])
          walk_at "nf"
          refine ⟨rfl, _, rfl, Nat.zero_le _, fun q hq => eq_tup (t := []) (SqT.of (((Same.refl _).new hq) _ _ ht8)) (SqT.of upd_same) ⟨_, rfl, ?_⟩⟩
          have e9 : Same H8 (upd H8 q (.tup [])) := (Same.refl _).new hq
          generalize upd H8 q (.tup []) = H9 at e9
          by_cases hs0 : s = []
          · have hfit : fits s a = true := by rw [hs0]; rfl
            rw [decide_eq_true hs0]
            exact iteT (iteT ⟨_, rfl, _, rfl, (by show 1 ≤ sizeLine; decide), app hfit e9⟩)
          · obtain ⟨r, z, hsz⟩ : ∃ r z, s = r ++ [z] := snoc_of hs0
            have hat : atI (natsV s) (-1) = some (.int (z : Nat)) := by rw [hsz, ← natsV_snoc]; exact atI_last _ _
            have hfz : fits s a = decide (z < a) := by
              unfold fits
              rw [hsz, List.getLast?_concat]
            rw [decide_eq_false hs0]
            refine iteF ⟨_, rfl, _, rfl, 1, rfl, t, _, _, _, rfl, rfl, SqT.of (e9 _ _ ht8), hat, _, _, rfl, rfl, _, rfl, ?_⟩
            by_cases hlt : z < a
            · rw [decide_eq_true (show ((z : Nat) : Int) < ((a : Nat) : Int) by omega)]
              exact iteT ⟨_, rfl, _, rfl, (by show 1 ≤ sizeLine; decide), app (by rw [hfz]; exact decide_eq_true hlt) e9⟩
            · rw [decide_eq_false (show ¬ ((z : Nat) : Int) < ((a : Nat) : Int) by omega)]
              refine iteF ⟨acc, e9 _ _ hDD, e8.trans e9, by omega, ?_⟩
              show Paired _ _ _
              rw [grow_snoc, hfz, decide_eq_false hlt, if_neg Bool.false_ne_true, List.append_nil]
              exact paired_imp (fun a b h => Same.tupp e9 h) hacc
        · rintro H7 acc e7 hDD hacc
          have hacc : Paired (TupP H7) acc (grow n s) := hacc
          have hal := hacc.length
          have hgl := hvG.length
          have h7G := e7 _ _ h5G
          have b1 : ((lay n i).take (j + 1)).flatMap (grow n) = ((lay n i).take j).flatMap (grow n) ++ grow n s := by
            rw [List.take_succ, hs, List.flatMap_append]
            simp
          have b2 : (((lay n i).take (j + 1)).flatMap (grow n)).length ≤ 64 := by
            have h1 := hlay (i + 1)
            have h2 : lay n (i + 1) = ((lay n i).take (j + 1) ++ (lay n i).drop (j + 1)).flatMap (grow n) := by
              rw [List.take_append_drop]
              rfl
            rw [h2, List.flatMap_append, List.length_append] at h1
            omega
          rw [b1, List.length_append] at b2
          refine ⟨G, D, vG, acc, rfl, rfl, h7G, hDD, le_size (by omega), fun G2 hG2 => ?_⟩
          have e8 : Same H7 (upd H7 G2 (.lst (vG ++ acc))) := (Same.refl _).new hG2
          refine ⟨G2, _, _, _, rfl, (e5.trans e7).trans e8, upd_same, ?_, (e5.trans e7).free hG2⟩
          rw [b1]
          exact paired_imp (fun a b h => Same.tupp e8 h) (paired_app (paired_imp (fun a b h => Same.tupp e7 h) hvG) hacc)
      · rintro σ H5 ⟨G, vG, o5, o6, rfl, e5, h5G, hvG, hGn⟩
        rw [hlenL, List.take_length] at hvG
        have hvG : Paired (TupP H5) vG (lay n (i + 1)) := hvG
        have h5F := e5 _ _ h3F
        have hgl := hvG.length
        have hfl := hvF.length
        have b1 : (List.range (i + 1 + 1)).flatMap (lay n) = (List.range (i + 1)).flatMap (lay n) ++ lay n (i + 1) := by
          rw [List.range_succ (n := i + 1), List.flatMap_append]
          simp
        have b2 := hrng (i + 2) (by omega)
        have b2 : ((List.range (i + 1 + 1)).flatMap (lay n)).length ≤ 64 := b2
        rw [b1, List.length_append] at b2
        refine ⟨_, rfl, _, rfl, F, G, vF, vG, rfl, rfl, h5F, h5G, le_size (by omega), fun F2 hF2 => ?_⟩
        have e6 : Same H5 (upd H5 F2 (.lst (vF ++ vG))) := (Same.refl _).new hF2
        refine ⟨_, rfl, _, _, rfl, F2, G, _, vG, _, _, _, _, rfl, (e3.trans e5).trans e6, (e3.trans e5).free hF2, upd_same, ?_, e6 _ _ h5G, ?_⟩
        · rw [b1]
          exact paired_imp (fun a b h => Same.tupp e6 h) (paired_app (paired_imp (fun a b h => Same.tupp e5 h) hvF) hvG)
        · exact paired_imp (fun a b h => Same.tupp e6 h) hvG
    · rintro σ H4 ⟨F, L, vF, vL, o1, o4, o5, o6, rfl, e3, hFn, h3F, hvF, h3L, hvL⟩
      exact ⟨_, rfl, k _ F vF e3 hFn h3F hvF⟩
end
end NS
set_option Elab.async false
set_option linter.all false
set_option maxRecDepth 100000
set_option maxHeartbeats 4000000
/-! What the law finds reached. -/
namespace NS
open PySem PySem.Spec PyProof.Rows L2 He
local macro_rules | `(tactic| walk_at "nf") => `(tactic| dsimp only [L2.tNext, L2.tSeq, L2.tDrop, L2.tRet, L2.tRetN, L2.tIfS, L2.tAsg, L2.gName, L2.gCons, L2.gNil, L2.gTup, L2.tOp, L2.tUn, L2.tTest, L2.tChain, L2.tB, L2.tAnd, L2.tOr, L2.tNot, L2.tAndV, L2.tOrV, L2.tNotV, L2.tIf, L2.tCB, L2.tNil, L2.tCons, L2.tTup, L2.tLst, L2.tFld, L2.sFld, L2.tCall, L2.tMeth, L2.tMake, L2.tBM, L2.tBM0, L2.tM1, L2.tM0, L2.tSl, L2.tPart, L2.tNoPart, L2.tPar, L2.tVar, L2.tC, L2.cxOf, L2.tYes, C8.tCut])
theorem subs_pw (n : Nat) : (subs n).Pairwise (fun a b => a.length ≤ b.length) := by
  unfold subs
  rw [List.pairwise_flatMap]
  constructor
  · intro j _
    have h := pw_lay (n := n) j
    refine List.Pairwise.imp_of_mem (fun {a b} ha hb _ => ?_) h
    rw [(mem_lay.mp ha).1, (mem_lay.mp hb).1]
    exact Nat.le_refl _
  · refine List.Pairwise.imp_of_mem (fun {a b} ha hb (h : a < b) x hx y hy => ?_) List.pairwise_lt_range
    rw [(mem_lay.mp hx).1, (mem_lay.mp hy).1]
    omega
theorem subs_ahead {n i : Nat} {s r : List Nat} (hs : (subs n)[i]? = some s) (hr : Asc n 0 r) (hl : r.length < s.length) : r ∈ (subs n).take i := by
  obtain ⟨j, hj⟩ := List.mem_iff_getElem?.mp (mem_subs.mpr hr)
  obtain ⟨hj1, hj2⟩ := List.getElem?_eq_some_iff.mp hj
  obtain ⟨hi1, hi2⟩ := List.getElem?_eq_some_iff.mp hs
  have hji : j < i := by
    rcases Nat.lt_trichotomy j i with h | h | h
    · exact h
    · subst h
      rw [hj] at hs
      cases hs
      omega
    · have := List.pairwise_iff_getElem.mp (subs_pw n) i j hi1 hj1 h
      rw [hi2, hj2] at this
      omega
  exact List.mem_iff_getElem?.mpr ⟨j, by rw [List.getElem?_take_of_lt hji]; exact hj⟩
theorem any_ones {f : Nat → Bool} : ∀ l : List Nat, (!(((l.filter f).map fun _ => 1).isEmpty)) = l.any f
  | [] => rfl
  | x :: r => by
    have ih := any_ones (f := f) r
    rw [List.filter_cons, List.any_cons, ← ih]
    cases f x <;> simp
theorem tk_filter {f : Nat → Bool} {l : List Nat} {i k : Nat} (h : l[i]? = some k) : (l.take (i + 1)).filter f = (l.take i).filter f ++ if f k = true then [k] else [] := by
  rw [List.take_succ, h, List.filter_append]
  show _ ++ List.filter _ [k] = _
  rw [List.filter_cons]
  cases f k <;> rfl
theorem dueL_len {p : Pb} {top : Int} {l : List (List Nat)} : (dueL p top l).length ≤ l.length := List.length_filter_le ..
def aheadB (found : List (List Nat)) (s : List Nat) (k : Nat) : Bool := decide (s.filter (fun j => decide (j ≠ k)) ∈ found)
section
variable {P : Program} {w : World} {K : PySem.W.Frag} {mg : Str → Option Value} {base : Heap}
def sp_law_reached (K : PySem.W.Frag) : Sp := fun vs H Q _ => ∃ s cols one two l vsS pr vsP, ∃ top : Int, vs = [.ref s, .ref l, .ref pr, .int top] ∧ St2 H s cols one two ∧ SqL K H l vsS ∧ Paired (LSt H) vsS (stepsL cols one two) ∧ SqL K H pr vsP ∧ Paired (PrAt H) vsP (pbOf cols one two).prs ∧
  ∀ H' r vs', Same H H' → H r = none → H' r = some (.lst vs') → Paired (TupP H') vs' (due (pbOf cols one two) top) → Q (.ref r) H'
theorem sc_law_reached : FnScope ["_law_site_here", "_law_steps_here", "_law_pairs_here", "_law_top", "_law_done", "_law_some", "_law_found", "_law_ahead", "_law_is_fit", "_law_k", "_law_one"] ["_law_site_here", "_law_steps_here", "_law_pairs_here", "_law_top"] (defScope s_law_reached) := ⟨rfl, rfl, rfl, by decide +kernel, rfl, by decide +kernel, by decide +kernel⟩
theorem ok_law_reached (T : Tx K mg) : C8.Cal P w K mg base 3 "_law_reached" (sp_law_reached K) [] := by
  refine cal_of T.f_law_reached T.g_law_reached sc_law_reached (fun _ _ _ _ _ _ us hl => match us, hl with | [_, _, _, _], _ => rfl) (fun vs H Q E h => ?_) (fun cdv A outer s H vs Q E hr h => ?_)
  · obtain ⟨s, cols, one, two, l, vsS, pr, vsP, top, rfl, _⟩ := h
    rfl
  · obtain ⟨s, cols, one, two, l, vsS, pr, vsP, top, rfl, hs, hl, hvS, hpr, hvP, k⟩ := h
    have nd := sc_law_reached.nd
    have hu := hu_of hr
    have h6 := hs.le
    have hn6 : (pbOf cols one two).n ≤ 6 := Nat.le_trans (steps_le cols one two) h6
    have hpn : (pbOf cols one two).n = (stepsL cols one two).length := rfl
    have hok : (pbOf cols one two).Ok := pb_ok hs.pl
    have hsl := sents_len (cols := cols) (one := one) (two := two) hs.hc.le (by omega)
    have hprl : (pbOf cols one two).prs.length = (sentsL cols one two).length := List.length_map ..
    obtain ⟨hsub, _, _⟩ := subs_len hn6
    refine ⟨_, (pss_cons (ps_asg (pe_tup (pa_cons (C8.pe_c (ok_law_subsets T) hr (by decide) rfl (pa_cons (pe_callB call_len_seq (by rfl) T.z_len (by decide +kernel) (pa_cons (pv 1) pa_nil)) pa_nil)) (pa_cons (pe_lst pa_nil) pa_nil))) (pg_tup (by rfl) (pgs_cons (pg_name (i := 5) nd rfl (Or.inl rfl)) (pgs_cons (pg_name (i := 6) nd rfl (Or.inr rfl)) pgs_nil))))
      (pss_cons (ps_for PassesOwn.never rfl (pi_list (pv 5)) (pg_name (i := 4) nd rfl (Or.inr rfl))
      (pss_cons (ps_setLc (i := 7) (own := [("_law_k", 9)]) rfl nd rfl rfl (sw_true rfl rfl rfl (by kernel_rfl)) (pi_tup (pv 4)) (blkOk_by (by kernel_rfl)) (fun _ _ _ _ _ => (pg_name (i := 9) nd rfl (Or.inr rfl))) (fun _ _ _ _ _ => (pts_one (pt_cmpR (show OpR _ (compareOp .In) (rInD K) from op_inD (room65 hr)) (pe_callTy (show CallR _ (.type "tuple") (rTupOf K) from call_tuple_of) (by rfl) T.z_tuple (by decide +kernel) (pa_cons (pe_lc (own := [("_law_one", 10)]) rfl nd (show PI _ _ _ (iTup K _) from pi_tup (pv 4)) (blkOk_by (by kernel_rfl)) (fun _ _ _ _ _ => (pg_name (i := 10) nd rfl (Or.inl rfl))) (fun _ _ _ _ _ => (pts_one (pt_cmpR op_ne (pv 10) (pv 9) (nomark _)))) (fun _ _ _ _ _ => (pv 10))) pa_nil)) (pv 6) (by rfl)))) (fun _ _ _ _ _ => pe_int))
      (pss_cons (ps_set (i := 8) nd rfl (Or.inl rfl) (pe_and (C8.pe_c (ok_law_is_strict T) hr (by decide) rfl (pa_cons (pv 2) (pa_cons (pv 4) pa_nil))) (pe_one (pe_cmpR op_le (C8.pe_c (ok_law_rows T) hr (by decide) rfl (pa_cons (pv 0) (pa_cons (pv 1) (pa_cons (pv 4) pa_nil)))) (pv 3) (nomark _)))))
      (pss_one (ps_if (PW.pt (pw_and (pt_val (pv 8)) (pw_and1 (PW.pt (pw_or (pt_cmpR (op_eqD hr.units) (pv 4) (pe_tup pa_nil) (nomark _)) (pw_or1 (pt_cmpR (op_neD hr.units) (pv 7) (pe_lst pa_nil) (nomark _)))))))) (pss_one (ps_expr (pe_bm PySem.F.plainAttrs_list PySem.F.slot_list_append PySem.F.type_list_append mt_append (pv 6) (pa_cons (pv 4) pa_nil)))) pss_nil)))))
      (pss_one (ps_ret (pv 6))))), ?_⟩
    walk_at "nf"
    have hlS := hvS.length
    refine ⟨_, rfl, l, _, rfl, .inl hl, (stepsL cols one two).length, by rw [hlS]; rfl, hn6, fun H1 U vU e1 hU0 hU hvU => ⟨Nat.zero_le _, fun F hF => ⟨(by show 2 ≤ sizeLine; decide), fun tp htp => ⟨tp, _, rfl, SqT.of upd_same, rfl, _, _, rfl, _, _, rfl, rfl, ?_⟩⟩⟩⟩
    have e2 : Same H1 (upd H1 F (.lst [])) := (Same.refl _).new hF
    have e3 := e2.new (o := .tup [.ref U, .ref F]) htp
    have h3F : upd (upd H1 F (.lst [])) tp (.tup [.ref U, .ref F]) F = some (.lst []) := (upd_ne (ne_of_none upd_same htp)).trans upd_same
    have hF0 : H F = none := e1.free hF
    generalize upd (upd H1 F (.lst [])) tp (.tup [.ref U, .ref F]) = H3 at e3 h3F
    refine ⟨_, rfl, U, rfl, ⟨_, SqL.of (e3 _ _ hU)⟩, ?_⟩
    have hvU : Paired (TupP H1) vU (subs (pbOf cols one two).n) := hvU
    have hlU := hvU.length
    refine for_it (walk_list (xs := vU)) (fun i σ H' => ∃ (o4 o7 o8 o9 o10 : Option V) (vF : List V), σ = [some (.ref s), some (.ref l), some (.ref pr), some (.int top), o4, some (.ref U), some (.ref F), o7, o8, o9, o10] ∧ Same H1 H' ∧ H' F = some (.lst vF) ∧ Paired (TupP H') vF (dueL (pbOf cols one two) top ((subs (pbOf cols one two).n).take i)))
      ⟨none, none, none, none, none, [], rfl, e3, h3F, by unfold dueL; exact .nil⟩ (fun i σ H' _ ⟨_, _, _, _, _, _, _, e, _⟩ => SqL.of (e _ _ hU)) ?_ ?_
    · rintro i v σ H4 H5 hi ⟨o4, o7, o8, o9, o10, vF, rfl, e4, h4F, hvF⟩ ⟨rfl, hv⟩
      obtain ⟨sd, hsd, t, rfl, ht0⟩ := paired_get hvU hv
      have hA : Asc (pbOf cols one two).n 0 sd := mem_subs.mp (List.mem_of_getElem? hsd)
      have hsdl : sd.length ≤ 6 := by
        have := hA.len (Nat.zero_le _)
        omega
      have ht := e4 _ _ ht0
      have hlF := hvF.length
      have hdl : (dueL (pbOf cols one two) top ((subs (pbOf cols one two).n).take i)).length ≤ 64 := by
        have h1 := dueL_len (p := pbOf cols one two) (top := top) (l := (subs (pbOf cols one two).n).take i)
        rw [List.length_take] at h1
        omega
      have htd := turn_due (top := top) hok (pre := (subs (pbOf cols one two).n).take i) hA (fun r hr => mem_subs.mp (List.mem_of_mem_take hr)) (fun r h1 h2 => subs_ahead hsd h1 h2)
      have htk : (subs (pbOf cols one two).n).take i ++ [sd] = (subs (pbOf cols one two).n).take (i + 1) := by
        rw [List.take_succ, hsd]
        rfl
      rw [htk] at htd
      generalize hfd : dueL (pbOf cols one two) top ((subs (pbOf cols one two).n).take i) = found at hvF hlF hdl htd
      walk_at "nf"
      refine ⟨_, rfl, t, rfl, ⟨_, SqT.of ht⟩, fun D hD => ?_⟩
      refine lc_go (walk_tup (xs := natsV sd)) hD (fun i acc _ => acc = natsV (((sd.take i).filter (aheadB found sd)).map fun _ => 1)) (fun H6 e6 => SqT.of (e6 _ _ ht)) rfl ?_ ?_
      · rintro j v H6 H7 acc hj e6 hDD hlen2 hacc ⟨rfl, hv⟩
        obtain ⟨kk, hkk, rfl⟩ := get_natsV hv
        rw [natsV_len] at hj
        have ht7 := e6 _ _ ht
        walk_at "nf"
        refine ⟨rfl, _, rfl, t, rfl, ⟨_, SqT.of ht7⟩, fun D2 hD2 => ?_⟩
        refine lc_go (walk_tup (xs := natsV sd)) hD2 (fun i acc _ => acc = natsV ((sd.take i).filter fun j => decide (j ≠ kk))) (fun H8 e8 => SqT.of (e8 _ _ ht7)) rfl ?_ ?_
        · rintro m v H8 H9 acc3 hm e8 hDD3 hlen3 hacc3 ⟨rfl, hv⟩
          obtain ⟨jj, hjj, rfl⟩ := get_natsV hv
          rw [natsV_len] at hm
          walk_at "nf"
          have tk := tk_filter (f := fun j => decide (j ≠ kk)) hjj
          refine ⟨rfl, _, rfl, _, rfl, rfl, _, rfl, ?_⟩
          by_cases hjk : jj = kk
          · rw [decide_eq_true (show V.int (jj : Nat) = V.int (kk : Nat) by rw [hjk])]
            refine iteF ⟨acc3, hDD3, e8, by omega, ?_⟩
            dsimp only
            rw [tk, decide_eq_false (fun z => z hjk), if_neg Bool.false_ne_true, List.append_nil, hacc3]
          · rw [decide_eq_false (show ¬ V.int (jj : Nat) = V.int (kk : Nat) from fun z => hjk (Int.ofNat_inj.mp (V.int.inj z)))]
            refine iteT ⟨_, rfl, lc_put hD2 hDD3 e8 hlen3 (by omega) id ?_⟩
            rw [tk, decide_eq_true (show jj ≠ kk from hjk), if_pos rfl, hacc3, natsV_snoc]
        · rintro H8 acc3 e8 hDD3 hacc3
          rw [natsV_len, List.take_length] at hacc3
          refine ⟨D2, _, rfl, .inl ⟨SqL.of hDD3, fun q hq => ⟨_, rfl, ?_⟩⟩⟩
          have e9 : Same H8 (upd H8 q (.tup acc3)) := (Same.refl _).new hq
          have e69 := e6.trans (e8.trans e9)
          refine in_tups (s := sd.filter fun j => decide (j ≠ kk)) (SqT.of (by rw [upd_same, hacc3])) (SqL.of (e69 _ _ h4F)) (paired_imp (fun a b h => Same.tupp e69 h) hvF) ⟨_, rfl, ?_⟩
          have tk := tk_filter (f := aheadB found sd) hkk
          have hab : aheadB found sd kk = decide ((sd.filter fun j => decide (j ≠ kk)) ∈ found) := rfl
          rw [← hab]
          cases hb : aheadB found sd kk with
          | true =>
            refine iteT (lc_put hD ((e8.trans e9) _ _ hDD) e69 hlen2 (by omega) id ?_)
            rw [tk, hb, if_pos rfl, hacc, List.map_append]
            exact natsV_snoc _ 1
          | false =>
            refine iteF ⟨acc, (e8.trans e9) _ _ hDD, e69, by omega, ?_⟩
            dsimp only
            rw [tk, hb, if_neg Bool.false_ne_true, List.append_nil, hacc]
      · rintro H6 acc e6 hDD hacc
        rw [natsV_len, List.take_length] at hacc
        have e16 := e4.trans e6
        have e06 := e1.trans e16
        have hfit : fitB (pbOf cols one two) top found sd = ((strictB (pbOf cols one two) sd && decide ((pbOf cols one two).rowsL sd ≤ top)) && (decide (sd = []) || sd.any (aheadB found sd))) := rfl
        have no : ∀ {H' : Hp}, Same H6 H' → fitB (pbOf cols one two) top found sd = false → H' F = some (.lst vF) ∧ Paired (TupP H') vF (dueL (pbOf cols one two) top ((subs (pbOf cols one two).n).take (i + 1))) := fun e h => by
          rw [← htd]
          unfold turnL
          rw [h, if_neg Bool.false_ne_true]
          exact ⟨(e6.trans e) _ _ h4F, paired_imp (fun a b h => Same.tupp (e6.trans e) h) hvF⟩
        refine ⟨_, rfl, _, rfl, pr, t, vsP, (pbOf cols one two).prs, sd, rfl, Same.sql e06 hpr, paired_imp (fun a b h => Same.pr e06 h) hvP, by omega, SqT.of (e6 _ _ ht), fun H7 e7 => ⟨_, rfl, ?_⟩⟩
        have hst : ((pbOf cols one two).prs.all fun q => !(decide (q.2 ∈ sd) && !decide (q.1 ∈ sd))) = strictB (pbOf cols one two) sd := rfl
        rw [hst]
        cases h1 : strictB (pbOf cols one two) sd with
        | false =>
          rw [h1] at hfit
          obtain ⟨n1, n2⟩ := no e7 (by rw [hfit]; rfl)
          exact iteF ⟨_, rfl, _, rfl, iteF (iteF ⟨_, _, _, _, _, vF, rfl, e16.trans e7, n1, n2⟩)⟩
        | true =>
          refine iteT ⟨_, rfl, _, rfl, _, rfl, s, cols, one, two, l, vsS, t, sd, rfl, Same.st2 (e06.trans e7) hs, Same.sql (e06.trans e7) hl, paired_imp (fun a b h => Same.lst (e06.trans e7) h) hvS, SqT.of ((e6.trans e7) _ _ ht), hA, fun H8 e8 => ⟨_, rfl, _, _, rfl, rfl, _, rfl, _, rfl, ?_⟩⟩
          have e68 := e7.trans e8
          rw [h1, Bool.true_and] at hfit
          cases h2 : decide ((pbOf cols one two).rowsL sd ≤ top) with
          | false =>
            rw [h2] at hfit
            obtain ⟨n1, n2⟩ := no e68 (by rw [hfit]; rfl)
            exact iteF (iteF ⟨_, _, _, _, _, vF, rfl, e16.trans e68, n1, n2⟩)
          | true =>
            rw [h2, Bool.true_and] at hfit
            have yes : ∀ {H' : Hp}, Same H6 H' → fitB (pbOf cols one two) top found sd = true → tyV K "list" (.ref F) H' ∧ H' F = some (.lst vF) ∧ vF.length < sizeLine ∧ Same H1 (upd H' F (.lst (vF ++ [.ref t]))) ∧ Paired (TupP (upd H' F (.lst (vF ++ [.ref t])))) (vF ++ [.ref t]) (dueL (pbOf cols one two) top ((subs (pbOf cols one two).n).take (i + 1))) := fun {H'} e h => by
              have hF' := (e6.trans e) _ _ h4F
              refine ⟨.inl ⟨rfl, _, SqL.of hF'⟩, hF', lt_size (by omega), (e16.trans e).mut hF, ?_⟩
              rw [← htd]
              unfold turnL
              rw [if_pos h]
              exact paired_snoc (paired_imp (fun a b h => tup_put hF' (fun xs z => by cases z) (Same.tupp (e6.trans e) h)) hvF) (tup_put hF' (fun xs z => by cases z) ⟨t, rfl, (e6.trans e) _ _ ht⟩)
            refine iteT ⟨_, rfl, Nat.zero_le _, fun q hq => eq_tup (t := []) (SqT.of ((e68.new hq) _ _ (e6 _ _ ht))) (SqT.of upd_same) ⟨_, rfl, ?_⟩⟩
            have e6q := e68.new (o := .tup []) hq
            generalize upd H8 q (.tup []) = H9 at e6q
            by_cases hs0 : sd = []
            · rw [decide_eq_true hs0, Bool.true_or] at hfit
              rw [decide_eq_true hs0]
              obtain ⟨y1, y2, y3, y4, y5⟩ := yes e6q hfit
              exact iteT (iteT ⟨_, rfl, y1, _, rfl, F, _, _, rfl, rfl, y2, y3, _, _, _, _, _, _, rfl, y4, upd_same, y5⟩)
            · rw [decide_eq_false hs0, Bool.false_or, ← any_ones] at hfit
              rw [decide_eq_false hs0]
              refine iteF ⟨_, rfl, Nat.zero_le _, fun q2 hq2 => ne_nats (SqL.of ((e6q.new hq2) _ _ (by rw [hDD, hacc]))) upd_same ⟨_, rfl, ?_⟩⟩
              have e6r := e6q.new (o := .lst []) hq2
              generalize upd H9 q2 (.lst []) = H10 at e6r
              cases h3 : !(((sd.filter (aheadB found sd)).map fun _ => 1).isEmpty) with
              | false =>
                rw [h3] at hfit
                obtain ⟨n1, n2⟩ := no e6r hfit
                exact iteF ⟨_, _, _, _, _, vF, rfl, e16.trans e6r, n1, n2⟩
              | true =>
                rw [h3] at hfit
                obtain ⟨y1, y2, y3, y4, y5⟩ := yes e6r hfit
                exact iteT ⟨_, rfl, y1, _, rfl, F, _, _, rfl, rfl, y2, y3, _, _, _, _, _, _, rfl, y4, upd_same, y5⟩
    · rintro σ H4 ⟨o4, o7, o8, o9, o10, vF, rfl, e4, h4F, hvF⟩
      rw [hlU, List.take_length] at hvF
      exact ⟨_, rfl, k _ F vF (e1.trans e4) hF0 h4F hvF⟩
end
end NS
set_option Elab.async false
set_option linter.all false
set_option maxRecDepth 100000
set_option maxHeartbeats 4000000
/-! Defs that are called where no repr is under way. -/
namespace NS
open PySem PySem.Spec PyProof.Rows L2 He
section
variable {P : Program} {w : World} {K : PySem.W.Frag} {mg : Str → Option Value} {base : Heap}
/-- a def's promise where nothing is guarded -/
structure FnG (P : Program) (w : World) (K : PySem.W.Frag) (mg : Str → Option Value) (base : Heap) (k : Nat) (f : Addr) (fd : FuncData) (ps : List Str) (sp : Sp) : Prop where
  len : ∀ vs H Q E, sp vs H Q E → vs.length = ps.length
  go : ∀ (A : Around) (outer : List Env) (s : Shared) (H : Hp) (args : Args) (us : List Value) (vs : List V) (Q : VK) (E : XK), A.guards = some [] → Room k A → Env0 P w K mg base A outer s H → BindsTo s fd args (ps.zip us) →
    Vals vs us → sp vs H Q E → codeAny (model P w) A (.call (.ref f) args) (CR CX0 outer P w H s Q E) s
/-- the body of a def keeps its promise, nothing guarded -/
abbrev BodyG (P : Program) (w : World) (K : PySem.W.Frag) (mg : Str → Option Value) (base : Heap) (N : List Str) (qual : Str) (st : Stmt) (f : Addr) (k : Nat) (sp : Sp) : Prop :=
  ∀ (cdv : Value) (A : Around) (outer : List Env) (s : Shared) (H : Hp) (vs : List V) (Q : VK) (E : XK), A.guards = some [] → Room k (A.deeper (envOfC qual (defScope st) s.heap.objs.size f cdv)) → sp vs H Q E →
    ∃ t, PSs (cxOf CX0 P w K mg base N qual (defScope st) f cdv A outer s H E).nox (defBody st) t ∧ t { nx := fun _ H' => Q .non H', rt := Q } (start N vs) H
theorem fng_of {x qual : Str} {st : Stmt} {f : Addr} {fd : FuncData} {dvs : List V} {kws : List (Str × V)} {N ps : List Str} {k : Nat} {sp : Sp} (F : FunD K x qual (defArgs st) (defBody st) (defScope st) dvs kws f fd) (S : FnScope N ps (defScope st))
    (len : ∀ vs H Q E, sp vs H Q E → vs.length = ps.length) (hb : BodyG P w K mg base N qual st f k sp) : FnG P w K mg base (k + 1) f fd ps sp := by
  obtain ⟨oc, od, dV, kV, doc, pm, an, cdv, ct, osl, rfl, lk, hcd, _, _⟩ := F.ex
  refine ⟨len, fun A outer s H args us vs Q E hg hr e0 hbd r hsp => ?_⟩
  have hl := len vs H Q E hsp
  have kin := e0.mod.kin.keeps fun b o e => (e0.bs b o e).1
  have nol := e0.mod.nolimit.keeps fun b o e => (e0.bs b o e).1
  have kinds : ∀ y ∈ ps.zip us, (defScope st).names.lookup y.1 = some .local ∨ ((defScope st).names.lookup y.1 = some .cell ∧ ((cellsFrom (s.heap.objs.size + 1) (defScope st).names []).lookup y.1).isSome = true) := by
    rintro ⟨n, v⟩ hy
    exact (S.par n (List.of_mem_zip hy).1).imp id fun q => ⟨q, PySem.W.cellsFrom_some _ _ _ (.inl q)⟩
  refine codeAny_call_function hr.depth (kin _ _ lk) rfl S.co S.gen rfl (PySem.W.codeRec_of kin hcd) (hbd _ _ _ _ (wpAny_newFunctionEnv_cells S.kind kinds ?_))
  rintro env rfl s1 x
  refine ⟨nol.keeps x.toInCall.keep, codeAny_func ?_⟩
  obtain ⟨t, ht, hq⟩ := hb cdv A outer s H vs Q E hg (hr.deeper _) hsp
  have I := inv_start (CX := CX0) (E := E) S hr.hd e0 hl r x
  have ht := ht.nox
  refine wpAny_mono (ht.run [] s1 (start N vs) H _ I hq) (fun fl s' hs => ?_) fun e s' hs => hs
  have fin : ∀ {σ' : L2.St} {H' : Hp} {v : V} {u : Value}, Inv (cxOf CX0 P w K mg base N qual (defScope st) f cdv A outer s H E) [] σ' H' s' → RelV v u → Q v H' → CE outer P w H s Q u s' := fun J rv q => ⟨_, _, J.os, J.bare, J.base, J.hok, rv, q⟩
  cases fl with
  | ret u => exact let ⟨v, σ', H', J, rv, q⟩ := hs; fin J rv q
  | next => exact let ⟨σ', H', J, q⟩ := hs; fin (v := V.non) (u := Value.none) J rfl q
  | brk => exact let ⟨_, _, _, q⟩ := hs; False.elim q
  | cont => exact let ⟨_, _, _, q⟩ := hs; False.elim q
/-- a def called by its name, nothing guarded -/
structure CalG (P : Program) (w : World) (K : PySem.W.Frag) (mg : Str → Option Value) (base : Heap) (k : Nat) (x : Str) (sp : Sp) : Prop where
  ex : ∃ f fd ps, FnG P w K mg base k f fd ps sp ∧ mg x = some (.ref f) ∧ PySem.W.keepIn K (.ref f) = true ∧ Binds K fd ps []
theorem calg_of {x : Str} {st : Stmt} {N ps : List Str} {k : Nat} {sp : Sp} (hF : ∃ fd, FunD K x x (defArgs st) (defBody st) (defScope st) [] [] (ga K x) fd) (hm : mg x = some (.ref (ga K x))) (S : FnScope N ps (defScope st))
    (b : ∀ (kV doc pm : Value) (an : Option Addr) (cdv ct : Value) (us : List Value), us.length = ps.length → bindArgs (PySem.W.fnOf x x (defArgs st) (defBody st) (defScope st) .none kV doc pm an cdv ct) ⟨us, []⟩ = pure (ps.zip us))
    (len : ∀ vs H Q E, sp vs H Q E → vs.length = ps.length) (hb : BodyG P w K mg base N x st (ga K x) k sp) : CalG P w K mg base (k + 1) x sp := by
  obtain ⟨fd, F⟩ := hF
  exact ⟨_, fd, ps, fng_of F S len hb, hm, F.kp, F.bindsN b⟩
end
section
variable {X : Cx} {k j : Nat} {x : Str} {sp : Sp} {p pos : Pos} {e : Expr} {es : List Expr} {t : TA}
theorem pe_cg (c : CalG X.prog X.w X.K X.mg X.base k x sp) (hgu : X.A.guards = some []) (hr : Room j X.A) (hk : k ≤ j) (hg : Gl X x) (ha : PA X (e :: es) t)
    (hdb : (x == ("__debug__" : Str)) = false := by decide) (he : starEach (e :: es) X.env = (false, eval e X.env) :: starEach es X.env := by rfl) (hpl : (backTo pos (starEach es X.env)).any (·.1) = false := by rfl) :
    PE X (.Call (.Name x p) (e :: es) [] pos) (tCall sp [] E0 t) := by
  obtain ⟨f, fd, ps, F, hm, kp, b⟩ := c.ex
  refine ⟨fun pins s σ H Q I h => wpAny_Call_Name_kw (ld_glob I hg hm ?_ hdb)⟩
  refine PySem.W.callWith_K (h₀ := X.base) I.ok.mod.kin kp (thn (ha.run pos pins s σ H _ I h) fun us s1 hu => ?_) he hpl
  obtain ⟨vs, H1, I1, r, q⟩ := hu
  rw [List.append_nil] at q
  refine ⟨I1.kIn, wpAny_call (codeAny_mono (F.go X.A X.stack s1 H1 ⟨us, []⟩ us vs Q E0 hgu (hr.mono hk) I1.env0 ?_ r q) fun res s' hq => ?_)⟩
  · have hb := b s1 us I1.kIn (by rw [List.append_nil, ← r.length]; exact F.len vs H1 Q E0 q)
    rwa [List.append_nil] at hb
  · match res, hq with
    | .ok (.ret u), hq => exact I1.after hq
end
end NS
set_option Elab.async false
set_option linter.all false
set_option maxRecDepth 100000
set_option maxHeartbeats 4000000
/-! The law's question about one number of rows. -/
namespace NS
open PySem PySem.Spec PyProof.Rows L2 He
local macro_rules | `(tactic| walk_at "nf") => `(tactic| dsimp only [L2.tNext, L2.tSeq, L2.tDrop, L2.tRet, L2.tRetN, L2.tIfS, L2.tAsg, L2.gName, L2.gCons, L2.gNil, L2.gTup, L2.tOp, L2.tUn, L2.tTest, L2.tChain, L2.tB, L2.tAnd, L2.tOr, L2.tNot, L2.tAndV, L2.tOrV, L2.tNotV, L2.tIf, L2.tCB, L2.tNil, L2.tCons, L2.tTup, L2.tLst, L2.tFld, L2.sFld, L2.tCall, L2.tMeth, L2.tMake, L2.tBM, L2.tBM0, L2.tM1, L2.tM0, L2.tSl, L2.tPart, L2.tNoPart, L2.tPar, L2.tVar, L2.tC, L2.cxOf, L2.tYes, C8.tCut])
theorem range_due {p : Pb} {top : Int} : List.range p.n ∈ due p top ↔ Reach p top (whole p.n) := by
  rw [mem_due]
  exact ⟨fun h => h.2, fun h => ⟨asc_range p.n, h⟩⟩
theorem due_nd (p : Pb) (top : Int) : (due p top).Nodup := by
  unfold due dueL
  exact (subs_nd p.n).filter _
theorem due_small {p : Pb} {top : Int} (h : p.n ≤ 6) : ∀ s ∈ due p top, (∀ k ∈ s, k < 8) ∧ s.length ≤ 8 := fun s hs => by
  obtain ⟨h1, _⟩ := mem_due.mp hs
  have := h1.len (Nat.zero_le _)
  exact ⟨fun k hk => by have := (Asc.lt h1 k hk).2; omega, by omega⟩
theorem due_le {p : Pb} {top : Int} (h : p.n ≤ 6) : (due p top).length ≤ 64 := by
  have h1 := dueL_len (p := p) (top := top) (l := subs p.n)
  have h2 := (subs_len h).1
  show (dueL p top (subs p.n)).length ≤ 64
  omega
theorem paired_rev {α β : Type} {R : α → β → Prop} {xs : List α} {ys : List β} (h : Paired R xs ys) : Paired R xs.reverse ys.reverse := by
  induction h with
  | nil => exact .nil
  | cons h _ ih =>
    rw [List.reverse_cons, List.reverse_cons]
    exact paired_snoc ih h
section
variable {P : Program} {w : World} {K : PySem.W.Frag} {mg : Str → Option Value} {base : Heap}
def sp_law_right : Sp := fun vs H Q _ => ∃ s cols one two, ∃ top : Int, vs = [.ref s, .int top] ∧ St2 H s cols one two ∧ (∃ f, (pbOf cols one two).Ord f) ∧ ∀ H', Same H H' → Q (.bl true) H'
theorem sc_law_right : FnScope ["_law_site_here", "_law_top", "_law_ground", "_law_due", "_law_shown", "_law_steps_here", "_law_pairs_here", "_law_some"] ["_law_site_here", "_law_top"] (defScope s_law_right) := ⟨rfl, rfl, rfl, by decide +kernel, rfl, by decide +kernel, by decide +kernel⟩
theorem ok_law_right (T : Tx K mg) : CalG P w K mg base 13 "_law_right" sp_law_right := by
  refine calg_of T.f_law_right T.g_law_right sc_law_right (fun _ _ _ _ _ _ us hl => match us, hl with | [_, _], _ => rfl) (fun vs H Q E h => ?_) (fun cdv A outer s H vs Q E hgu hr h => ?_)
  · obtain ⟨s, cols, one, two, top, rfl, _⟩ := h
    rfl
  · obtain ⟨s, cols, one, two, top, rfl, hs, hod, k⟩ := h
    have nd := sc_law_right.nd
    have hu := hu_of hr
    have hn6 : (pbOf cols one two).n ≤ 6 := Nat.le_trans (steps_le cols one two) hs.le
    refine ⟨_, (pss_cons (ps_par (i := 5) (j := 6) rfl nd rfl rfl (by decide) rfl rfl (pa_cons (C8.pe_c (ok_law_steps T) hr (by decide) rfl (pa_cons (pv 0) pa_nil)) (pa_cons (C8.pe_c (ok_law_pairs T) hr (by decide) rfl (pa_cons (pv 0) pa_nil)) pa_nil)) (by rfl))
      (pss_cons (ps_set (i := 2) nd rfl (Or.inr rfl) (C8.pe_c (ok_law_exchange T) hr (by decide) rfl (pa_cons (pv 0) pa_nil)))
      (pss_cons (ps_set (i := 3) nd rfl (Or.inl rfl) (C8.pe_c (ok_law_reached T) hr (by decide) rfl (pa_cons (pv 0) (pa_cons (pv 5) (pa_cons (pv 6) (pa_cons (pv 1) pa_nil))))))
      (pss_cons (ps_if (pt_cmpR (op_inD (room65 hr)) (pe_tupRg rfl rfl T.z_tuple (prg_1 rfl T.z_range (pe_callB call_len_seq (by rfl) T.z_len (by decide +kernel) (pa_cons (pv 5) pa_nil)))) (pv 3) (by rfl)) (pss_one (ps_ret (pe_and (pe_cmpR op_isN (C8.pe_c (ok_barred T) hr (by decide) rfl (pa_cons (pv 2) (pa_cons (pv 1) pa_nil))) pe_non (nomark _)) (pe_one (pe_not (C8.pe_c (ok_shows_barred T) hr (by decide) rfl (pa_cons (pv 2) (pa_cons (pv 1) (pa_cons (pe_callTy call_tuple_of (by rfl) T.z_tuple (by decide +kernel) (pa_cons (pv 3) pa_nil)) pa_nil))))))))) pss_nil)
      (pss_cons (ps_if (pt_cmpR op_ne (pe_callB (cr_repr hgu hr.units) (by rfl) T.z_repr (by decide +kernel) (pa_cons (pe_callK0C (okK_barred T) hr (by decide) rfl (pk_cons (pv 2) (pk_cons (pv 1) pk_nil))) pa_nil)) (pe_callB (cr_repr hgu hr.units) (by rfl) T.z_repr (by decide +kernel) (pa_cons (pe_callTy call_tuple_of (by rfl) T.z_tuple (by decide +kernel) (pa_cons (pv 3) pa_nil)) pa_nil)) (nomark _)) (pss_one (ps_ret pe_bl)) pss_nil)
      (pss_cons (ps_setLc (i := 4) (own := [("_law_some", 7)]) rfl nd rfl rfl (sw_true rfl rfl rfl (by kernel_rfl)) (pi_tup (pe_tup (pa_cons (pe_callTy call_tuple_of (by rfl) T.z_tuple (by decide +kernel) (pa_cons (pv 3) pa_nil)) (pa_cons (pe_revL (pv 3)) pa_nil)))) (blkOk_by (by kernel_rfl)) (fun _ _ _ _ _ => (pg_name (i := 7) nd rfl (Or.inl rfl))) (fun _ _ _ _ _ => pts_nil) (fun _ _ _ _ _ => (C8.pe_c (ok_shows_barred T) hr (by decide) rfl (pa_cons (pv 2) (pa_cons (pv 1) (pa_cons (pv 7) pa_nil))))))
      (pss_cons (ps_expr (pe_bm PySem.F.plainAttrs_list PySem.F.slot_list_append PySem.F.type_list_append mt_append (pv 4) (pa_cons (pe_callK0C (okK_shows_barred T) hr (by decide) rfl (pk_cons (pe_callTy call_tuple_of (by rfl) T.z_tuple (by decide +kernel) (pa_cons (pv 3) pa_nil)) (pk_cons (pv 1) (pk_cons (pv 2) pk_nil)))) pa_nil)))
      (pss_one (ps_ret (pe_cmpR op_eq (pe_callB (cr_repr hgu hr.units) (by rfl) T.z_repr (by decide +kernel) (pa_cons (pv 4) pa_nil)) (pe_callB (cr_repr hgu hr.units) (by rfl) T.z_repr (by decide +kernel) (pa_cons (pe_lst (pa_cons pe_bl (pa_cons pe_bl (pa_cons pe_bl pa_nil)))) pa_nil)) (nomark _))))))))))), ?_⟩
    walk_at "nf"
    refine ⟨_, rfl, s, cols, one, two, rfl, hs, fun H1 L vsS e1 hL0 hL hvS => ⟨_, rfl, s, cols, one, two, rfl, Same.st2 e1 hs, fun H2 R vsP e2 hR0 hR hvP => ⟨_, _, rfl, ?_⟩⟩⟩
    have e12 := e1.trans e2
    refine ⟨_, rfl, s, cols, one, two, rfl, Same.st2 e12 hs, fun H3 x e3 hx0 hx => ?_⟩
    have e13 := e12.trans e3
    have hgd : Gd K H3 x cols one two := ⟨hx, hs.hc, hs.h1, hs.h2, hs.le, hs.pl, hod⟩
    refine ⟨_, rfl, _, rfl, _, rfl, _, rfl, s, cols, one, two, L, vsS, R, vsP, top, rfl, Same.st2 e13 hs, SqL.of ((e2.trans e3) _ _ hL), paired_imp (fun a b h => Same.lst (e2.trans e3) h) hvS, SqL.of (e3 _ _ hR), paired_imp (fun a b h => Same.pr e3 h) hvP, fun H4 U vU e4 hU0 hU hvU => ?_⟩
    dsimp only [L2.tTupRg, L2.tRg1, L2.tCB, L2.tCons, L2.tVar, L2.tNil]
    have hlS := hvS.length
    have hdl := due_le (top := top) hn6
    have hul := hvU.length
    refine ⟨_, rfl, L, _, rfl, .inl (SqL.of ((e2.trans (e3.trans e4)) _ _ hL)), (pbOf cols one two).n, by rw [hlS]; rfl, RgOk.of_le (by omega) (by omega) (by omega) (by omega), fun q hq => ?_⟩
    have e5 : Same H4 (upd H4 q (.tup (rgV 0 (pbOf cols one two).n))) := (Same.refl _).new hq
    have e05 := (e13.trans e4).trans e5
    have hgd5 := Same.gd (e4.trans e5) hgd
    refine ⟨_, rfl, in_tups (s := List.range (pbOf cols one two).n) (SqT.of (by rw [upd_same, rgV_nats])) (SqL.of (e5 _ _ hU)) (paired_imp (fun a b h => Same.tupp e5 h) hvU) ⟨_, rfl, ?_⟩⟩
    generalize upd H4 q (.tup (rgV 0 (pbOf cols one two).n)) = H5 at e5 e05 hgd5
    have hU5 := e5 _ _ hU
    have hvU5 := paired_imp (fun a b h => Same.tupp e5 h) hvU
    by_cases hre : Reach (pbOf cols one two) top (whole (pbOf cols one two).n)
    · have hin := range_due.mpr hre
      rw [decide_eq_true hin]
      refine iteT ⟨_, rfl, _, rfl, x, cols, one, two, top, rfl, hgd5, fun _ H6 e6 => ⟨rfl, _, rfl, ?_⟩, fun h => absurd hre h⟩
      rw [decide_eq_true rfl]
      refine iteT ⟨_, rfl, _, rfl, _, rfl, U, _, rfl, .inl ⟨SqL.of (e6 _ _ hU5), fun l hl => ?_⟩⟩
      have e7 := e6.new (o := .tup vU) hl
      refine ⟨x, cols, one, two, l, vU, due (pbOf cols one two) top, top, rfl, Same.gd e7 hgd5, .inr (SqT.of upd_same), paired_imp (fun a b h => Same.tupp e7 h) hvU5, due_nd _ _, fun s => Iff.rfl, fun H8 e8 => ⟨_, rfl, ?_⟩⟩
      rw [decide_eq_false (fun z => z hin)]
      exact k _ (e05.trans (e7.trans e8))
    · have hnin : List.range (pbOf cols one two).n ∉ due (pbOf cols one two) top := fun z => hre (range_due.mp z)
      rw [decide_eq_false hnin]
      refine iteF ?_
      dsimp only [L2.tCallN, L2.tCB, L2.tCons, L2.tVar, L2.tNil]
      have hsm := due_small (top := top) hn6
      refine ⟨_, rfl, _, rfl, rfl, rfl, x, cols, one, two, top, rfl, hgd5, fun h => absurd h hre, fun _ H6 t vT e6 ht0 ht hvT => ?_⟩
      refine tup_repr (SqT.of ht) hvT hsm (by omega) ⟨_, rfl, U, _, rfl, .inl ⟨SqL.of (e6 _ _ hU5), fun l hl => ?_⟩⟩
      have e7 := e6.new (o := .tup vU) hl
      refine tup_repr (l := due (pbOf cols one two) top) (SqT.of upd_same) (paired_imp (fun a b h => Same.tupp e7 h) hvU5) hsm (by omega) ⟨rfl, _, rfl, ?_⟩
      rw [decide_eq_true rfl, Bool.not_true]
      refine iteF ?_
      generalize upd H6 l (.tup vU) = H7 at e7
      have hU7 := e7 _ _ hU5
      have hvU7 : Paired (TupP H7) vU (due (pbOf cols one two) top) := paired_imp (fun a b h => Same.tupp e7 h) hvU5
      dsimp only [L2.tLc, L2.iTup, L2.tTup, L2.tCB, L2.tCons, L2.tVar, L2.tNil, L2.tRevL]
      refine ⟨_, rfl, U, _, rfl, .inl ⟨SqL.of hU7, fun t2 ht2 => ⟨_, rfl, U, _, rfl, SqL.of (((Same.refl _).new ht2) _ _ hU7), fun r hr0 => ⟨(by show 2 ≤ sizeLine; decide), fun tp htp => ?_⟩⟩⟩⟩
      have e8 : Same H7 (upd H7 t2 (.tup vU)) := (Same.refl _).new ht2
      have e9 : Same (upd H7 t2 (.tup vU)) (upd (upd H7 t2 (.tup vU)) r (.lst vU.reverse)) := (Same.refl _).new hr0
      have e10 : Same (upd (upd H7 t2 (.tup vU)) r (.lst vU.reverse)) (upd (upd (upd H7 t2 (.tup vU)) r (.lst vU.reverse)) tp (.tup [.ref t2, .ref r])) := (Same.refl _).new htp
      have hA2 := (e9.trans e10) _ _ (upd_same (H := H7) (a := t2) (o := .tup vU))
      have hAr := e10 _ _ (upd_same (H := upd H7 t2 (.tup vU)) (a := r) (o := .lst vU.reverse))
      have hAt := upd_same (H := upd (upd H7 t2 (.tup vU)) r (.lst vU.reverse)) (a := tp) (o := .tup [.ref t2, .ref r])
      have e7a := (e8.trans e9).trans e10
      generalize upd (upd (upd H7 t2 (.tup vU)) r (.lst vU.reverse)) tp (.tup [.ref t2, .ref r]) = HA at e7a hA2 hAr hAt
      have e5a := e7.trans e7a
      refine ⟨tp, rfl, ⟨_, SqT.of hAt⟩, fun D hD => ?_⟩
      have hdn := due_nd (pbOf cols one two) top
      refine lc_go (walk_tup (xs := [.ref t2, .ref r])) hD (fun i acc _ => acc = List.replicate i (.bl true)) (fun H8 e8 => SqT.of (e8 _ _ hAt)) rfl ?_ ?_
      · rintro i v H8 H9 acc hi e8 hDD hlen2 hacc ⟨rfl, hv⟩
        have hi2 : i < 2 := hi
        have e59 := e5a.trans e8
        have hvU9 : Paired (TupP H9) vU (due (pbOf cols one two) top) := paired_imp (fun a b h => Same.tupp e59 h) hvU5
        have fin : ∀ {H' : Hp}, Same H9 H' → ∃ acc', H' D = some (.lst acc') ∧ acc'.length < sizeLine ∧ PvL HA D (fun i acc _ => acc = List.replicate i (.bl true)) (i + 1) (upd H' D (.lst (acc' ++ [.bl true]))) := fun e => lc_put (R := fun i acc _ => acc = List.replicate i (.bl true)) hD (e _ _ hDD) (e8.trans e) hlen2 (by omega) id (by
          rw [hacc, List.replicate_succ'])
        walk_at "nf"
        refine ⟨rfl, ?_⟩
        rw [if_pos rfl]
        have hc : i = 0 ∨ i = 1 := by omega
        rcases hc with rfl | rfl
        · cases hv
          refine ⟨_, rfl, _, rfl, _, rfl, x, cols, one, two, t2, vU, due (pbOf cols one two) top, top, rfl, Same.gd e59 hgd5, .inr (SqT.of (e8 _ _ hA2)), hvU9, hdn, fun s => Iff.rfl, fun H' e => ?_⟩
          rw [decide_eq_true hnin]
          exact fin e
        · cases hv
          refine ⟨_, rfl, _, rfl, _, rfl, x, cols, one, two, r, vU.reverse, (due (pbOf cols one two) top).reverse, top, rfl, Same.gd e59 hgd5, .inl (SqL.of (e8 _ _ hAr)), paired_rev hvU9, List.pairwise_reverse.mpr (hdn.imp fun h e => h e.symm), fun s => List.mem_reverse, fun H' e => ?_⟩
          have hnr : List.range (pbOf cols one two).n ∉ (due (pbOf cols one two) top).reverse := fun z => hnin (List.mem_reverse.mp z)
          rw [decide_eq_true hnr]
          exact fin e
      · rintro H8 acc e8 hDD hacc
        have hacc : acc = [.bl true, .bl true] := hacc
        subst hacc
        have e58 := e5a.trans e8
        refine ⟨_, rfl, .inl ⟨rfl, _, SqL.of hDD⟩, _, rfl, U, _, rfl, .inl ⟨SqL.of (e58 _ _ hU5), fun t3 ht3 => ?_⟩⟩
        have e9 : Same H8 (upd H8 t3 (.tup vU)) := (Same.refl _).new ht3
        have h3 := upd_same (H := H8) (a := t3) (o := .tup vU)
        generalize upd H8 t3 (.tup vU) = H9 at e9 h3
        have e59 := e58.trans e9
        refine ⟨_, rfl, _, rfl, rfl, rfl, x, cols, one, two, t3, vU, due (pbOf cols one two) top, top, rfl, Same.gd e59 hgd5, .inr (SqT.of h3), paired_imp (fun a b h => Same.tupp e59 h) hvU5, hdn, fun s => Iff.rfl, fun HB eB => ?_⟩
        rw [decide_eq_true hnin]
        have hDB := (e9.trans eB) _ _ hDD
        refine ⟨D, _, _, rfl, rfl, hDB, (by show 2 < sizeLine; decide), _, rfl, ?_⟩
        have hDC : upd HB D (.lst ([.bl true, .bl true] ++ [.bl true])) D = some (.lst [.bl true, .bl true, .bl true]) := upd_same
        have eC : Same HA (upd HB D (.lst ([.bl true, .bl true] ++ [.bl true]))) := (e8.trans (e9.trans eB)).mut hD
        generalize upd HB D (.lst ([.bl true, .bl true] ++ [.bl true])) = HC at hDC eC
        refine bools_repr (SqL.of hDC) ⟨(by show 3 ≤ sizeLine; decide), fun p hp => bools_repr (SqL.of upd_same) ⟨rfl, ?_⟩⟩
        rw [decide_eq_true rfl]
        exact k _ (e05.trans (e5a.trans (eC.new hp)))
end
end NS
set_option Elab.async false
set_option linter.all false
set_option maxRecDepth 100000
set_option maxHeartbeats 4000000
/-! The law. -/
namespace NS
open PySem PySem.Spec PyProof.Rows L2 He
local macro_rules | `(tactic| walk_at "nf") => `(tactic| dsimp only [L2.tNext, L2.tSeq, L2.tDrop, L2.tRet, L2.tRetN, L2.tIfS, L2.tAsg, L2.gName, L2.gCons, L2.gNil, L2.gTup, L2.tOp, L2.tUn, L2.tTest, L2.tChain, L2.tB, L2.tAnd, L2.tOr, L2.tNot, L2.tAndV, L2.tOrV, L2.tNotV, L2.tIf, L2.tCB, L2.tNil, L2.tCons, L2.tTup, L2.tLst, L2.tFld, L2.sFld, L2.tCall, L2.tMeth, L2.tMake, L2.tBM, L2.tBM0, L2.tM1, L2.tM0, L2.tSl, L2.tPart, L2.tNoPart, L2.tPar, L2.tVar, L2.tC, L2.cxOf, L2.tYes, C8.tCut])
section
variable {P : Program} {w : World} {K : PySem.W.Frag} {mg : Str → Option Value} {base : Heap}
def sp_law (K : PySem.W.Frag) : Sp := fun vs H Q _ => ∃ a, ∃ ns : List Int, vs = [.ref a] ∧ SqL K H a (ns.map V.int) ∧ ns.length ≤ 63 ∧ ∀ H', Q (.bl true) H'
theorem sc_law : FnScope ["_law_script", "_law_pen_here", "_law_turn", "_law_site_here", "_law_steps_here", "_law_pairs_here", "_law_top"] ["_law_script"] (defScope s_law) := ⟨rfl, rfl, rfl, by decide +kernel, rfl, by decide +kernel, by decide +kernel⟩
theorem law_len {vs : List V} {H : Hp} {Q : VK} {E : XK} (h : sp_law K vs H Q E) : vs.length = 1 := by
  obtain ⟨a, ns, rfl, _⟩ := h
  rfl
theorem body_law (T : Tx K mg) : BodyG P w K mg base ["_law_script", "_law_pen_here", "_law_turn", "_law_site_here", "_law_steps_here", "_law_pairs_here", "_law_top"] "law" s_law (ga K "law") (14 - 1) (sp_law K) := fun cdv A outer s H vs Q E hgu hr h => by
  obtain ⟨a, ns, rfl, ha, hns, k⟩ := h
  have nd := sc_law.nd
  have hu := hu_of hr
  refine ⟨_, (pss_cons (ps_set (i := 1) nd rfl (Or.inl rfl) (C8.pe_c (ok_law_pen T) hr (by decide) rfl (pa_cons (pv 0) pa_nil)))
      (pss_cons (ps_for PassesOwn.never rfl (pi_range1 rfl T.z_range (pa_cons pe_int pa_nil)) (pg_name (i := 2) nd rfl (Or.inl rfl))
      (pss_cons (ps_set (i := 3) nd rfl (Or.inl rfl) (C8.pe_c (ok_law_site T) hr (by decide) rfl (pa_cons (pv 1) (pa_cons (pe_op op_add pe_int (C8.pe_c (ok_law_draw T) hr (by decide) rfl (pa_cons (pv 1) (pa_cons pe_int pa_nil)))) (pa_cons pe_int pa_nil)))))
      (pss_cons (ps_par (i := 4) (j := 5) rfl nd rfl rfl (by decide) rfl rfl (pa_cons (C8.pe_c (ok_law_steps T) hr (by decide) rfl (pa_cons (pv 3) pa_nil)) (pa_cons (C8.pe_c (ok_law_pairs T) hr (by decide) rfl (pa_cons (pv 3) pa_nil)) pa_nil)) (by rfl))
      (pss_one (ps_if (pt_cmpR (op_inD (room65 hr)) (pe_tupRg rfl rfl T.z_tuple (prg_1 rfl T.z_range (pe_callB call_len_seq (by rfl) T.z_len (by decide +kernel) (pa_cons (pv 4) pa_nil)))) (C8.pe_c (ok_law_reached T) hr (by decide) rfl (pa_cons (pv 3) (pa_cons (pv 4) (pa_cons (pv 5) (pa_cons pe_int pa_nil))))) (by rfl)) (pss_one (ps_for PassesOwn.never rfl (pi_range1 rfl T.z_range (pa_cons (pe_op op_add (pe_callB call_len_seq (by rfl) T.z_len (by decide +kernel) (pa_cons (C8.pe_c (ok_law_spots T) hr (by decide) rfl (pa_cons (pv 3) pa_nil)) pa_nil)) pe_int) pa_nil)) (pg_name (i := 6) nd rfl (Or.inl rfl))
      (pss_one (ps_if (pt_not (pt_val (pe_cg (ok_law_right T) hgu hr (by decide) rfl (pa_cons (pv 3) (pa_cons (pv 6) pa_nil))))) (pss_one (ps_ret pe_bl)) pss_nil)))) pss_nil)))))
      (pss_one (ps_ret pe_bl)))), ?_⟩
  walk_at "nf"
  refine ⟨_, rfl, a, ns, rfl, ha, hns, fun H1 p c e1 hp0 hp => ⟨_, rfl, by decide, by decide, ?_⟩⟩
  refine for_it (walk_rngL (n := 4)) (fun i σ H' => ∃ o2 o3 o4 o5 o6 : Option V, σ = [some (.ref a), some (.ref p), o2, o3, o4, o5, o6] ∧ PenAt H' p c (61 * i))
    ⟨none, none, none, none, none, rfl, hp⟩ (fun i σ H' _ _ => True.intro) ?_ ?_
  · rintro i v σ H2 H3 hi ⟨o2, o3, o4, o5, o6, rfl, hp2⟩ ⟨rfl, rfl⟩
    walk_at "nf"
    refine ⟨_, rfl, _, rfl, p, c, 61 * i, 2, rfl, hp2, by omega, by decide, by decide, fun H4 r b4 hp4 hr4 => ⟨_, _, rfl, rfl, ?_⟩⟩
    refine ⟨p, c, 61 * i + 1, _, rfl, by omega, by omega, hp4, by omega, fun H5 s cols one two b5 hp5 hs0 hsite hc h1 h2 h6 hpl => ?_⟩
    have hs : St2 H5 s cols one two := ⟨hsite, hc, h1, h2, h6, hpl⟩
    refine ⟨_, rfl, s, cols, one, two, rfl, hs, fun H6 L vsS e6 hL0 hL hvS => ⟨_, rfl, s, cols, one, two, rfl, Same.st2 e6 hs, fun H7 R vsP e7 hR0 hR hvP => ⟨_, _, rfl, ?_⟩⟩⟩
    have e57 := e6.trans e7
    have hn6 : (pbOf cols one two).n ≤ 6 := Nat.le_trans (steps_le cols one two) h6
    dsimp only [L2.tTupRg, L2.tRg1, L2.tCB, L2.tCons, L2.tVar, L2.tNil]
    have hlS := hvS.length
    refine ⟨_, rfl, L, _, rfl, .inl (SqL.of (e7 _ _ hL)), (pbOf cols one two).n, by rw [hlS]; rfl, RgOk.of_le (by omega) (by omega) (by omega) (by omega), fun q hq => ?_⟩
    have e8 : Same H7 (upd H7 q (.tup (rgV 0 (pbOf cols one two).n))) := (Same.refl _).new hq
    have h8 : upd H7 q (.tup (rgV 0 (pbOf cols one two).n)) q = some (.tup (natsV (List.range (pbOf cols one two).n))) := by rw [upd_same, rgV_nats]
    generalize upd H7 q (.tup (rgV 0 (pbOf cols one two).n)) = H8 at e8 h8
    have e58 := e57.trans e8
    refine ⟨_, rfl, _, rfl, _, rfl, s, cols, one, two, L, vsS, R, vsP, 99, rfl, Same.st2 e58 hs, SqL.of ((e7.trans e8) _ _ hL), paired_imp (fun a b h => Same.lst (e7.trans e8) h) hvS, SqL.of (e8 _ _ hR), paired_imp (fun a b h => Same.pr e8 h) hvP, fun H9 U vU e9 hU0 hU hvU => ?_⟩
    refine in_tups (SqT.of (e9 _ _ h8)) (SqL.of hU) hvU ⟨_, rfl, ?_⟩
    have e59 := e58.trans e9
    have hp9 : PenAt H9 p c (61 * (i + 1)) := by
      have := Same.pen e59 hp5
      rwa [show 61 * i + 1 + 60 = 61 * (i + 1) by omega] at this
    by_cases hre : Reach (pbOf cols one two) 99 (whole (pbOf cols one two).n)
    · rw [decide_eq_true (range_due.mpr hre)]
      have hod := ord_of (pb_ok hpl) hre
      have hs9 := Same.st2 e59 hs
      refine iteT ?_
      refine ⟨_, rfl, s, cols, one, two, rfl, hs9, fun HA l eA hl0 hl => ⟨l, _, rfl, .inl (SqL.of hl), _, _, rfl, rfl, _, rfl, by rw [List.length_map]; omega, by rw [List.length_map]; omega, ?_⟩⟩
      refine for_it (walk_rngL (n := _)) (fun j σ H' => ∃ o6 : Option V, σ = [some (.ref a), some (.ref p), some (.int (i : Nat)), some (.ref s), some (.ref L), some (.ref R), o6] ∧ Same H9 H')
        ⟨o6, rfl, eA⟩ (fun i σ H' _ _ => True.intro) ?_ ?_
      · rintro j v σ HB HC hj ⟨q6, rfl, eB⟩ ⟨rfl, rfl⟩
        walk_at "nf"
        refine ⟨_, rfl, _, rfl, s, cols, one, two, _, rfl, Same.st2 eB hs9, hod, fun HD eD => ⟨_, rfl, ?_⟩⟩
        rw [Bool.not_true]
        exact iteF ⟨_, rfl, eB.trans eD⟩
      · rintro σ HB ⟨q6, rfl, eB⟩
        exact ⟨_, _, _, _, _, rfl, Same.pen eB hp9⟩
    · rw [decide_eq_false (fun z => hre (range_due.mp z))]
      exact iteF ⟨_, _, _, _, _, rfl, hp9⟩
  · rintro σ H2 ⟨o2, o3, o4, o5, o6, rfl, hp2⟩
    exact k H2
end
end NS
set_option Elab.async false
set_option linter.all false
set_option maxRecDepth 100000
set_option maxHeartbeats 4000000
/-! The end: the law called where nothing is guarded. -/
namespace NS
open PySem PySem.Spec PyProof.Rows L2 He
section
variable {P : Program} {w : World} {K : PySem.W.Frag} {mg mb : Str → Option Value} {k : Nat} {fa a : Addr} {fd : FuncData} {x : Str} {sp : Sp} {s₁ : Shared} {vs : List Value} {ns : List Int}
/-- what is wanted of the law's call -/
def Told (s₁ : Shared) (r : Result) (s' : Shared) : Prop := r = .ok (.ret (.bool true)) ∧ OldK s₁.heap s'.heap ∧ s'.os = s₁.os ∧ AllBare s'.gens
theorem end_at (KX : K.In s₁.heap) (gm : s₁.heap.Ns mainGlobals mg) (gb : s₁.heap.Ns builtinsNs mb) (bb : ∀ x : Str, x ≠ "__name__" → mb x = bootBuiltins x) (nl : s₁.heap.NoLimit) (ng : s₁.gens = #[])
    (ha : s₁.heap.get? a = some { cls := .type "list", data := .seq vs.toArray }) (hr : Room k callerA)
    (F : ∀ base : Heap, K.In base → base.Ns mainGlobals mg → FnG P w K mg base k fa fd [x] sp) (hbind : ∀ (s : Shared) (u : Value), BindsTo s fd ⟨[u], []⟩ [(x, u)])
    (H : Hp) (hH : ∀ b, H b = none ∨ b = a ∧ K.lookup a = none ∧ ∃ o xs, H b = some (.frz o (.lst xs))) (hok : HOk P w H s₁.heap) (hsp : sp [.ref a] H (fun v _ => v = .bl true) fun _ _ _ => False) :
    codeAny (model P w) callerA (.call (.ref fa) ⟨[.ref a], []⟩) (Told s₁) s₁ := by
  have seen : ∀ {b : Addr} {o : Obj}, s₁.heap.get? b = some o → b ≠ a → (hidT s₁.heap H).get? b = some o := fun {b o} e n => hidT_get e ((hH b).resolve_right fun z => n z.1)
  have dicts : ∀ {b : Addr} {o : Obj} {es : Array DictEntry} {ep : Nat}, s₁.heap.get? b = some o → o.data = .dict es ep → (hidT s₁.heap H).get? b = some o := fun {b o es ep} e d => seen e fun z => by
    rw [z, ha] at e
    rw [← Option.some.inj e] at d
    exact absurd d (fun q => nomatch q)
  have names : ∀ {b : Addr} {m : Str → Option Value}, s₁.heap.Ns b m → (hidT s₁.heap H).Ns b m := fun {b m} h => by
    obtain ⟨o, es, ep, e, d, r⟩ := h
    exact ⟨o, es, ep, dicts e d, d, r⟩
  have kin : K.In (hidT s₁.heap H) := fun b o e => hidT_get (KX b o e) (by
    rcases hH b with z | ⟨rfl, z, _⟩
    · exact z
    · rw [z] at e
      cases e)
  have md : Mod K mg (hidT s₁.heap H) := by
    obtain ⟨mc, n1, n2⟩ := nl
    exact ⟨kin, names gm, ⟨mb, names gb, bb⟩, ⟨mc, names n1, n2⟩⟩
  have e0 : Env0 P w K mg (hidT s₁.heap H) callerA [] s₁ H := ⟨rfl, md, fun _ _ e => of_hidT e, by rw [hidT_size]; exact Nat.le_refl _, trivial, fun b hb => (by cases hb), hok, .of_eq ng⟩
  refine codeAny_mono ((F _ kin (names gm)).go callerA [] s₁ H ⟨[.ref a], []⟩ [.ref a] [.ref a] _ _ rfl hr e0 (hbind s₁ _) (.cons rfl .nil) hsp) fun r s' h => ?_
  match r, h with
  | .ok (.ret u), h =>
    obtain ⟨v, H', os, bare, un, ok', rv, q⟩ := h
    have q : v = .bl true := q
    rw [q] at rv
    have rv : u = Value.bool true := rv
    rw [rv]
    refine ⟨rfl, OldK.of_keep fun b o e => ?_, os, bare⟩
    rcases hH b with z | ⟨_, _, ob, xs, z⟩
    · exact un.keep b o e z (fun q => (by cases q)) (by simp)
    · obtain ⟨e1, _⟩ := hok b _ z
      obtain ⟨e2, _⟩ := ok' b _ (un.frzs b ob _ z)
      rw [e1] at e
      rw [← Option.some.inj e]
      exact e2
theorem end_of (KX : K.In s₁.heap) (gm : s₁.heap.Ns mainGlobals mg) (gb : s₁.heap.Ns builtinsNs mb) (bb : ∀ x : Str, x ≠ "__name__" → mb x = bootBuiltins x) (nl : s₁.heap.NoLimit) (ng : s₁.gens = #[])
    (ha : s₁.heap.get? a = some { cls := .type "list", data := .seq vs.toArray }) (hi : IntsAre vs ns) (hl : ns.length ≤ sizeLine) (hr : Room k callerA)
    (F : ∀ base : Heap, K.In base → base.Ns mainGlobals mg → FnG P w K mg base k fa fd [x] sp) (hbind : ∀ (s : Shared) (u : Value), BindsTo s fd ⟨[u], []⟩ [(x, u)])
    (hsp : ∀ H : Hp, SqL K H a (ns.map V.int) → sp [.ref a] H (fun v _ => v = .bl true) fun _ _ _ => False) :
    codeAny (model P w) callerA (.call (.ref fa) ⟨[.ref a], []⟩) (Told s₁) s₁ := by
  have rv := vals_ints hi
  have hlv := hi.length
  by_cases hk : K.lookup a = none
  · refine end_at KX gm gb bb nl ng ha hr F hbind (fun b => if b = a then some (.frz { cls := .type "list", data := .seq vs.toArray } (.lst (ns.map V.int))) else none) (fun b => ?_) (fun b u z => ?_) (hsp _ (.inl (.inr ⟨{ cls := .type "list", data := .seq vs.toArray }, if_pos rfl⟩)))
    · by_cases hb : b = a
      · exact .inr ⟨hb, hk, _, _, if_pos hb⟩
      · exact .inl (if_neg hb)
    · by_cases hb : b = a
      · have z := (if_pos hb).symm.trans z
        rw [← Option.some.inj z, hb]
        exact ⟨ha, by rw [List.length_map]; exact hl, vs, _, rv, ha⟩
      · have z := (if_neg hb).symm.trans z
        cases z
  · obtain ⟨o, ho⟩ := Option.ne_none_iff_exists'.mp hk
    have e := KX a o ho
    rw [ha] at e
    rw [← Option.some.inj e] at ho
    exact end_at KX gm gb bb nl ng ha hr F hbind (fun _ => none) (fun _ => .inl rfl) (fun _ _ z => (by cases z)) (hsp _ (.inr ⟨_, vs.toArray, _, ho, rfl, rfl, rfl, by rw [List.size_toArray, hlv]; exact hl, by simpa using rv⟩))
end
theorem law_fn {P : Program} {w : World} {K : PySem.W.Frag} {mg : Str → Option Value} (T : Tx K mg) : ∃ fd : FuncData, (∀ (s : Shared) (u : Value), BindsTo s fd ⟨[u], []⟩ [("_law_script", u)]) ∧ ∀ base : Heap, FnG P w K mg base 14 (ga K "law") fd ["_law_script"] (sp_law K) := by
  obtain ⟨fd, F⟩ := T.f_law
  have b := FunD.bindsA (ps := ["_law_script"]) F fun _ _ _ _ _ _ us hl => match us, hl with | [_], _ => rfl
  exact ⟨fd, fun s v => b s [v] rfl, fun base => fng_of F sc_law (fun vs H Q E h => law_len h) (body_law T)⟩
end NS
open PySem PySem.W PySem.Calls PyProof.Rows
theorem PySem.Challenge.cw_nearestsays_k74_whole_barred_rooms_liste_holds : PySem.Challenge.rw_nearestsays_k74_whole_barred_rooms_liste.Holds := by
  w_on; o_law
  refine HandSHeadRun.head_any (r := NS.R) (q := view NS.R.prog [90]) (H := NS.hk) (ob := NS.ob) (M := 11000) (loose := NS.names) (d := HandSHeadRun.topDef NS.R.prog 90) (kwd := []) NS.ob_eq (by kernel_rfl) (fun s => by kernel_rfl) NS.run
    (by kernel_rfl) (by kernel_rfl) (by kernel_rfl) (by rfl) (by first | assumption | decide +kernel) (by decide +kernel) ⟨rfl, rfl, rfl, rfl, rfl, by decide +kernel⟩ ?hw ?hc
  case hw => w_witness2
  case hc =>
    refine Att.attach_call (l := PySem.Challenge.rw_nearestsays_k74_whole_barred_rooms_liste) (n := 63) rfl (by kernel_rfl) fun w s₀ s₁ mg mb fa o pm cd doc a vs ns G Y ho hd hcd hmg hobj hints hlen hg => ?_
    obtain ⟨K, KX, c⟩ := Y
    have hmg : mg ("law" : PySem.Str) = some (.ref fa) := by
      have e : (HandSHeadRun.topDef NS.R.prog 90).name = ("law" : PySem.Str) := by kernel_rfl
      rw [← e]
      exact hmg
    have T : NS.Tx K mg := ⟨c, s₁.heap, KX, G.T.g⟩
    obtain rfl : fa = He.ga K "law" := by
      have e := hmg.symm.trans T.g_law
      cases e
      rfl
    obtain ⟨fd, hb, hF⟩ := NS.law_fn (P := (PySem.Challenge.rw_nearestsays_k74_whole_barred_rooms_liste).prog) (w := w) T
    exact NS.end_of KX G.T.g G.T.b G.T.builtins G.T.nolimit hg hobj hints (Nat.le_trans hlen (by decide)) ⟨rfl, by decide, by decide⟩ (fun base _ _ => hF base) hb fun H hS => ⟨a, ns, rfl, hS, hlen, fun _ => rfl⟩

