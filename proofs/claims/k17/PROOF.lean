import PyProof.Rows.All
import Wide.All
import OpenK.AllK
import Wide.FinOn
import HandS.ForMost
import HandS.Exc
import HandS.Codes
import HandS.ClsMeth
import HandS.Property
import HandS.Head0
import HandS.Head1
import HandS.Head2
import HandS.HeadEnd
import HandS.HeadHook1
import HandS.HeadHook2
import HandS.Call
import HandS.CallSlots
import HandS.Star
import HandS.Defaults
import HandS.TupAny
import HandS.Wide
import HandS.IsInst
import HandS.Deep
import HandS.Style
import HandS.NoneIn
import HandS.DictComp
import HandS.Text
import HandS.StrMore
import HandS.WordsDict
import HandS.TupLen
import HandS.FStr
import HandS.Small
import OpenK.KMeth
import KE.KEqDict
import HandS.Iter
import HandS.Zip
import KE.SortKeyHeap
import KE.KDictCopyH
import KE.KDictSum
import PyProof.Transfer
import HandS.RaiseMore
import HandS.Finally
import KE.GoesEnum
import PyProof.InstNe
import OpenK.KWalk
import HandS.GenList
import KE.DataMinMax
import KE.KDictPairs
import PySem.Challenge.RW_fillroads_k17_ways_of_least_use
set_option Elab.async false
set_option linter.all false
set_option maxRecDepth 100000
set_option maxHeartbeats 1000000
/-! What the head tells. -/
namespace DL
open PySem PySem.Spec PyProof.Rows L2
/-- built-in names that the text never binds -/
def bnames : List Str := ["abs", "all", "bool", "dict", "enumerate", "int", "isinstance", "len", "list", "max", "min", "range", "repr", "set", "sorted", "str", "sum", "tuple", "zip", "super", "TypeError", "ValueError", "KeyError", "IndexError", "LookupError", "OverflowError", "RuntimeError"]
def tyNames : List String := ["NoneType", "bool", "int", "str", "tuple", "list", "dict"]
/-! ### the head -/
open He
/-- the def of a property's getter -/
def prG (K : PySem.W.Frag) (C : Addr) (y : Str) : Addr := match PySem.W.recIn K (ma K C y) "property" with
  | some (.ref g :: _) => g
  | _ => 0
structure DefP where
  path : PySem.W.Frag → Addr
  name : Str
  qual : Str
  params : Arguments
  body : List Stmt
  scope : Scope
  dfl : List Dv := []
def fnP (K : PySem.W.Frag) (a : Addr) : FnW := match K.lookup a with
  | some ⟨_, _, .func fd, _⟩ => some (fd.name, fd.qualname, fd.params, fd.body, fd.scope, fd.globals, fd.closure, fd.builtins)
  | _ => none
def DefP.val (d : DefP) : FnW := some (d.name, d.qual, d.params, .stmts d.body, d.scope, mainGlobals, [], builtinsNs)
def DefP.ok (K : PySem.W.Frag) (d : DefP) : Bool := PySem.W.keepIn K (.ref (d.path K)) && (match K.lookup (d.path K) with
  | some ⟨_, _, .func fd, _⟩ => PySem.W.codeIn K fd.code d.qual && dflB K fd.defaults (d.dfl.map (Dv.v K))
  | _ => false)
theorem DefP.funD {K : PySem.W.Frag} {d : DefP} (e : fnP K (d.path K) = d.val) (c : d.ok K = true) : ∃ fd, FunD K d.name d.qual d.params d.body d.scope (d.dfl.map (Dv.v K)) [] (d.path K) fd := by
  unfold DefP.ok at c
  rw [Bool.and_eq_true] at c
  obtain ⟨kp, c⟩ := c
  unfold fnP DefP.val at e
  split at c
  · rename_i oc od fd osl q
    rw [q] at e
    rw [Bool.and_eq_true] at c
    obtain ⟨n1, n2, n3, n4, n5, n6, n7, n8, n9, n10, n11, n12, n13, n14, n15⟩ := fd
    simp only [Option.some.injEq, Prod.mk.injEq] at e
    obtain ⟨rfl, rfl, rfl, rfl, rfl, rfl, rfl, rfl⟩ := e
    exact ⟨_, ⟨oc, od, n8, n9, n10, n11, n12, n13, n14, osl, rfl, q, c.1, dflB_ok c.2, .inl rfl⟩, kp⟩
  · cases c
abbrev AlP : Type := Bool × List FnW
def obsP (ex : PySem.W.Frag → Bool) (fn : List DefP) (K : PySem.W.Frag) : AlP := (ex K && fn.all fun d => d.ok K, fn.map fun d => fnP K (d.path K))
def valP (fn : List DefP) : AlP := (true, fn.map DefP.val)
def SaysP (ex : PySem.W.Frag → Bool) (fn : List DefP) (K : PySem.W.Frag) : Prop := obsP ex fn K = valP fn
/-! the head's addresses: from the globals and the kit's statics; what was seen stands in the bits of a number -/
def addB : List Addr → List Addr → Nat → List Addr × Nat
  | [], new, seen => (new, seen)
  | r :: rs, new, seen => (match Nat.beq (Nat.land (Nat.shiftRight seen r) 1) 1 with
    | true => addB rs new seen
    | false => addB rs (r :: new) (Nat.lor seen (Nat.shiftLeft 1 r)))
def expB (g : Addr → Option Obj) : List Addr → List Addr → Nat → List Addr × Nat
  | [], new, seen => (new, seen)
  | a :: as, new, seen => (match g a with
    | some o => (match addB (refsD o) new seen with
      | (new, seen) => expB g as new seen)
    | none => expB g as new seen)
def growB (g : Addr → Option Obj) : Nat → List Addr → Nat → List Addr
  | 0, fr, _ => fr
  | n + 1, fr, seen => (match expB g fr [] seen with
    | (new, seen) => fr ++ growB g n new seen)
def asQ (g : Addr → Option Obj) (n : Nat) : List Addr := growB g n [mainGlobals, cStatics] (Nat.lor (Nat.shiftLeft 1 mainGlobals) (Nat.shiftLeft 1 cStatics))
def obsPG (n : Nat) (ex : PySem.W.Frag → Bool) (fn : List DefP) (g : Addr → Option Obj) : AlP := obsP ex fn (frG g (asQ g n))
def hookP (n : Nat) (ex : PySem.W.Frag → Bool) (fn : List DefP) : PySem.W.Hook where
  α := AlP
  obs := fun s => obsPG n ex fn s.heap.get?
  val := fun _ => valP fn
  says := fun _ h => ∃ K : PySem.W.Frag, K.In h ∧ SaysP ex fn K
  of := fun _ _ e => ⟨_, frG_in, e⟩
  keeps := fun _ _ _ ⟨K, hK, c⟩ k => ⟨K, PySem.W.Frag.In.keeps hK k, c⟩
theorem obsPG_eq {n : Nat} {ex : PySem.W.Frag → Bool} {fn : List DefP} {g : Addr → Option Obj} {s : Shared} (h : ∀ a, g a = s.heap.get? a) : obsPG n ex fn g = (hookP n ex fn).obs s := by
  have e : g = s.heap.get? := funext h
  rw [e] <;> rfl
section
variable {ex : PySem.W.Frag → Bool} {fn : List DefP} {K : PySem.W.Frag}
theorem SaysP.exB (c : SaysP ex fn K) : ex K = true := (Bool.and_eq_true_iff.mp (congrArg (fun z : AlP => z.1) c)).1
theorem SaysP.def_ (c : SaysP ex fn K) (i : Nat) {d : DefP} (h : fn[i]? = some d := by rfl) : ∃ fd, FunD K d.name d.qual d.params d.body d.scope (d.dfl.map (Dv.v K)) [] (d.path K) fd := by
  have c2 := (Bool.and_eq_true_iff.mp (congrArg (fun z : AlP => z.1) c)).2
  have e : fn.map (fun d => fnP K (d.path K)) = fn.map DefP.val := congrArg (fun z : AlP => z.2) c
  have e2 : (fn.map fun d => fnP K (d.path K))[i]? = (fn.map DefP.val)[i]? := by rw [e]
  rw [List.getElem?_map, List.getElem?_map, h] at e2
  exact DefP.funD (Option.some.inj e2) (List.all_eq_true.mp c2 d (List.mem_of_getElem? h))
end
/-- a property as the head has it -/
def prB (K : PySem.W.Frag) (C : Addr) (y : Str) : Bool := decide (PySem.W.findIn K (.ref C) y = some (some (.ref (ma K C y)))) && (decide (PySem.W.specialIn K (.ref (ma K C y)) "__get__" = some (some (.builtin "property.__get__"))) && (decide (PySem.W.takesIn K (.ref (ma K C y)) = some true) && (match PySem.W.recIn K (ma K C y) "property" with
  | some (.ref _ :: _) => true
  | _ => false)))
theorem prB_ok {K : PySem.W.Frag} {C : Addr} {y : Str} (c : prB K C y = true) : PropOf K C y (ma K C y) (prG K C y) := by
  unfold prB at c
  simp only [Bool.and_eq_true, decide_eq_true_eq] at c
  obtain ⟨c1, c2, c3, c4⟩ := c
  refine ⟨c1, c2, c3, ?_⟩
  unfold prG
  split at c4
  · rename_i a rest q
    rw [q]
    exact ⟨rest, rfl⟩
  · cases c4
/-- the class's own subscript -/
def gtB (K : PySem.W.Frag) (C : Addr) : Bool := decide (PySem.W.findIn K (.ref C) "__getitem__" = some (some (.ref (ma K C "__getitem__")))) && (PySem.W.fnIn K (ma K C "__getitem__") && PySem.W.isFn K (.ref (ma K C "__getitem__")))
/-- a constant of a class, an int -/
def cvB (K : PySem.W.Frag) (C : Addr) (y : Str) (j : Int) : Bool := match PySem.W.typeIn K (.ref C) with
  | some mc => PySem.W.readsIn K C mc && (match PySem.W.findCls K (.ref C) mc y with
    | some (.val (.int i _)) => decide (i = j) && decide (PySem.W.specialIn K (.ref C) "__getattribute__" = some (some (.builtin "type.__getattribute__")))
    | _ => false)
  | none => false
theorem cvB_ok {K : PySem.W.Frag} {C : Addr} {y : Str} {j : Int} (c : cvB K C y j = true) : ∃ mc u, ClX.CRead K C mc ∧ ClX.CVal K C mc y (.int j) u := by
  unfold cvB at c
  split at c
  · rename_i mc q
    rw [Bool.and_eq_true] at c
    obtain ⟨c1, c2⟩ := c
    split at c2
    · rename_i i t q2
      rw [Bool.and_eq_true, decide_eq_true_eq, decide_eq_true_eq] at c2
      obtain ⟨rfl, c3⟩ := c2
      exact ⟨mc, _, ⟨c1, c3⟩, ⟨q2, ⟨t, rfl⟩⟩⟩
    · cases c2
  · cases c
/-- isinstance: one class -/
def isB (K : PySem.W.Frag) (C : Addr) : Bool := (tyNames.all fun T => decide (PySem.W.kitOne K (.type T) (.ref C) = some false) && decide (PySem.W.kitOne K (.ref C) (.type T) = some false)) && (decide (PySem.W.kitOne K (.ref C) (.ref C) = some true) &&
  (decide (PySem.W.findIn K (.ref C) "__class__" = some (some (.builtin "object.__class__"))) && (decide (PySem.W.specialIn K (.builtin "object.__class__") "__get__" = some (some (.builtin "getset_descriptor.__get__"))) &&
    (decide (PySem.W.takesIn K (.builtin "object.__class__") = some true) && decide (PySem.W.mroIn K C (.type "object") = some true)))))
/-- a staticmethod of a class: its def -/
def stG (K : PySem.W.Frag) (C : Addr) (m : Str) : Addr := match PySem.W.recIn K (ma K C m) "staticmethod" with
  | some (.ref g :: _) => g
  | _ => 0
def stB (K : PySem.W.Frag) (C : Addr) (m : Str) : Bool := match PySem.W.typeIn K (.ref C) with
  | some mc => PySem.W.readsIn K C mc && (decide (PySem.W.specialIn K (.ref C) "__getattribute__" = some (some (.builtin "type.__getattribute__"))) && ((match PySem.W.findCls K (.ref C) mc m with
    | some (.get (.builtin g) (.ref p) .none (.ref E)) => decide (g = "staticmethod.__get__") && (decide (p = ma K C m) && decide (E = C))
    | _ => false) && (match PySem.W.recIn K (ma K C m) "staticmethod" with
    | some (.ref _ :: _) => true
    | _ => false)))
  | none => false
theorem stB_ok {K : PySem.W.Frag} {C : Addr} {m : Str} (c : stB K C m = true) : ∃ mc, ClX.CRead K C mc ∧ PySem.W.findCls K (.ref C) mc m = some (.get (.builtin "staticmethod.__get__") (.ref (ma K C m)) .none (.ref C)) ∧ ∃ rest, PySem.W.recIn K (ma K C m) "staticmethod" = some (.ref (stG K C m) :: rest) := by
  unfold stB at c
  split at c
  · rename_i mc q
    simp only [Bool.and_eq_true, decide_eq_true_eq] at c
    obtain ⟨c1, c2, c3, c4⟩ := c
    refine ⟨mc, ⟨c1, c2⟩, ?_, ?_⟩
    · split at c3
      · rename_i g p E e
        simp only [Bool.and_eq_true, decide_eq_true_eq] at c3
        obtain ⟨rfl, rfl, rfl⟩ := c3
        exact e
      · cases c3
    · unfold stG
      split at c4
      · rename_i a rest q2
        rw [q2]
        exact ⟨rest, rfl⟩
      · cases c4
  · cases c
/-- a class's own ==, no != -/
def eqB (K : PySem.W.Frag) (C : Addr) : Bool := decide (PySem.W.findIn K (.ref C) "__eq__" = some (some (.ref (ma K C "__eq__")))) && (PySem.W.isFn K (.ref (ma K C "__eq__")) && (decide (PySem.W.findIn K (.ref C) "__ne__" = some (some (.builtin "object.__ne__"))) && decide (PySem.W.mroIn K C (.type "object") = some true)))
/-- isinstance: two classes -/
def isB2 (K : PySem.W.Frag) (C D : Addr) : Bool := isB K C && (isB K D && (decide (PySem.W.kitOne K (.ref C) (.ref D) = some false) && decide (PySem.W.kitOne K (.ref D) (.ref C) = some false)))
end DL

set_option maxHeartbeats 0
namespace DL
open PySem PySem.Spec PyProof.Rows L2
abbrev pw := PySem.Challenge.pw_fillroads_k17_ways_of_least_use
def topS (i : Nat) : Stmt := pw.main.body.getD i (.Pass ⟨0, 0, 0, 0⟩)
def inS (i j : Nat) : Stmt := (C8.clsBody (topS i)).getD j (.Pass ⟨0, 0, 0, 0⟩)
/-! the head (head.py) -/
def faL : List He.Fa := [.glo "_law_pen", .glo "_law_draw", .glo "_law_pick", .glo "_law_some_names", .glo "_law_drawn_place", .glo "_law_shuffled", .glo "_law_drawn_roads", .glo "_law_small", .glo "_law_great", .glo "is_integer", .glo "is_between", .glo "is_size", .glo "is_list", .glo "is_name", .glo "is_tuple_of", .glo "is_price", .glo "are_prices", .glo "is_place", .glo "checked_places", .glo "is_road", .glo "checked_roads", .glo "_law_made", .glo "_law_names_of", .glo "searched", .glo "way", .glo "_law_least_uses", .glo "_law_right", .glo "law", .str "LETTERS" "abcdefghijklmnopqrstuvwxyz", .int "MAX_LETTERS" 8, .int "MAX_PLACES" 10, .int "MAX_SIZE" 1000000000000000000000000000000, .glo "Network", .cls "Network", .mkr "Network", .noat "Network" "own_tank", .noat "Network" "own_places", .noat "Network" "own_names", .noat "Network" "by_name", .noat "Network" "own_roads", .meth "Network" "need_place", .meth "Network" "roads_from"] ++ bnames.map He.Fa.free
def exL (K : PySem.W.Frag) : Bool := (faL.all fun f => f.ok K) && (isB K (He.ga K "Network")) && (cvB K (He.ga K "Network") "MAX_PLACES" 10) && (cvB K (He.ga K "Network") "MAX_ROADS" 40) && (cvB K (He.ga K "Network") "MAX_SIZE" 1000000000000000000000000000000)
abbrev df__law_pen : DefP := ⟨fun K => He.ga K "_law_pen", "_law_pen", "_law_pen", C8.fnArgs (topS 46), C8.fnBody (topS 46), C8.fnScope (topS 46), []⟩
abbrev df__law_draw : DefP := ⟨fun K => He.ga K "_law_draw", "_law_draw", "_law_draw", C8.fnArgs (topS 47), C8.fnBody (topS 47), C8.fnScope (topS 47), []⟩
abbrev df__law_pick : DefP := ⟨fun K => He.ga K "_law_pick", "_law_pick", "_law_pick", C8.fnArgs (topS 48), C8.fnBody (topS 48), C8.fnScope (topS 48), []⟩
abbrev df__law_some_names : DefP := ⟨fun K => He.ga K "_law_some_names", "_law_some_names", "_law_some_names", C8.fnArgs (topS 50), C8.fnBody (topS 50), C8.fnScope (topS 50), []⟩
abbrev df__law_drawn_place : DefP := ⟨fun K => He.ga K "_law_drawn_place", "_law_drawn_place", "_law_drawn_place", C8.fnArgs (topS 51), C8.fnBody (topS 51), C8.fnScope (topS 51), []⟩
abbrev df__law_shuffled : DefP := ⟨fun K => He.ga K "_law_shuffled", "_law_shuffled", "_law_shuffled", C8.fnArgs (topS 49), C8.fnBody (topS 49), C8.fnScope (topS 49), []⟩
abbrev df__law_drawn_roads : DefP := ⟨fun K => He.ga K "_law_drawn_roads", "_law_drawn_roads", "_law_drawn_roads", C8.fnArgs (topS 52), C8.fnBody (topS 52), C8.fnScope (topS 52), []⟩
abbrev df__law_small : DefP := ⟨fun K => He.ga K "_law_small", "_law_small", "_law_small", C8.fnArgs (topS 53), C8.fnBody (topS 53), C8.fnScope (topS 53), []⟩
abbrev df__law_great : DefP := ⟨fun K => He.ga K "_law_great", "_law_great", "_law_great", C8.fnArgs (topS 54), C8.fnBody (topS 54), C8.fnScope (topS 54), []⟩
abbrev df_is_integer : DefP := ⟨fun K => He.ga K "is_integer", "is_integer", "is_integer", C8.fnArgs (topS 10), C8.fnBody (topS 10), C8.fnScope (topS 10), []⟩
abbrev df_is_between : DefP := ⟨fun K => He.ga K "is_between", "is_between", "is_between", C8.fnArgs (topS 11), C8.fnBody (topS 11), C8.fnScope (topS 11), []⟩
abbrev df_is_size : DefP := ⟨fun K => He.ga K "is_size", "is_size", "is_size", C8.fnArgs (topS 15), C8.fnBody (topS 15), C8.fnScope (topS 15), []⟩
abbrev df_is_list : DefP := ⟨fun K => He.ga K "is_list", "is_list", "is_list", C8.fnArgs (topS 12), C8.fnBody (topS 12), C8.fnScope (topS 12), []⟩
abbrev df_is_name : DefP := ⟨fun K => He.ga K "is_name", "is_name", "is_name", C8.fnArgs (topS 14), C8.fnBody (topS 14), C8.fnScope (topS 14), []⟩
abbrev df_is_tuple_of : DefP := ⟨fun K => He.ga K "is_tuple_of", "is_tuple_of", "is_tuple_of", C8.fnArgs (topS 13), C8.fnBody (topS 13), C8.fnScope (topS 13), []⟩
abbrev df_is_price : DefP := ⟨fun K => He.ga K "is_price", "is_price", "is_price", C8.fnArgs (topS 16), C8.fnBody (topS 16), C8.fnScope (topS 16), []⟩
abbrev df_are_prices : DefP := ⟨fun K => He.ga K "are_prices", "are_prices", "are_prices", C8.fnArgs (topS 17), C8.fnBody (topS 17), C8.fnScope (topS 17), []⟩
abbrev df_is_place : DefP := ⟨fun K => He.ga K "is_place", "is_place", "is_place", C8.fnArgs (topS 18), C8.fnBody (topS 18), C8.fnScope (topS 18), []⟩
abbrev df_checked_places : DefP := ⟨fun K => He.ga K "checked_places", "checked_places", "checked_places", C8.fnArgs (topS 41), C8.fnBody (topS 41), C8.fnScope (topS 41), []⟩
abbrev df_is_road : DefP := ⟨fun K => He.ga K "is_road", "is_road", "is_road", C8.fnArgs (topS 19), C8.fnBody (topS 19), C8.fnScope (topS 19), []⟩
abbrev df_checked_roads : DefP := ⟨fun K => He.ga K "checked_roads", "checked_roads", "checked_roads", C8.fnArgs (topS 42), C8.fnBody (topS 42), C8.fnScope (topS 42), []⟩
abbrev df_new_Network : DefP := ⟨fun K => He.ma K (He.ga K "Network") "__init__", "__init__", "Network.__init__", C8.fnArgs (inS 44 3), C8.fnBody (inS 44 3), C8.fnScope (inS 44 3), [.adr (He.dflAt ("Network", some "__init__") 0)]⟩
abbrev df__law_made : DefP := ⟨fun K => He.ga K "_law_made", "_law_made", "_law_made", C8.fnArgs (topS 55), C8.fnBody (topS 55), C8.fnScope (topS 55), []⟩
abbrev df__law_names_of : DefP := ⟨fun K => He.ga K "_law_names_of", "_law_names_of", "_law_names_of", C8.fnArgs (topS 57), C8.fnBody (topS 57), C8.fnScope (topS 57), []⟩
abbrev df_m_need_place : DefP := ⟨fun K => He.ma K (He.ga K "Network") "need_place", "need_place", "Network.need_place", C8.fnArgs (inS 44 18), C8.fnBody (inS 44 18), C8.fnScope (inS 44 18), []⟩
abbrev df_g_roads_from : DefP := ⟨fun K => He.ma K (He.ga K "Network") "roads_from", "roads_from", "Network.roads_from", C8.fnArgs (inS 44 20), C8.fnBody (inS 44 20), C8.fnScope (inS 44 20), []⟩
abbrev df_searched : DefP := ⟨fun K => He.ga K "searched", "searched", "searched", C8.fnArgs (topS 5), C8.fnBody (topS 5), C8.fnScope (topS 5), []⟩
abbrev df_way : DefP := ⟨fun K => He.ga K "way", "way", "way", C8.fnArgs (topS 6), C8.fnBody (topS 6), C8.fnScope (topS 6), []⟩
abbrev df__law_least_uses : DefP := ⟨fun K => He.ga K "_law_least_uses", "_law_least_uses", "_law_least_uses", C8.fnArgs (topS 56), C8.fnBody (topS 56), C8.fnScope (topS 56), []⟩
abbrev df__law_right : DefP := ⟨fun K => He.ga K "_law_right", "_law_right", "_law_right", C8.fnArgs (topS 58), C8.fnBody (topS 58), C8.fnScope (topS 58), []⟩
abbrev df_law : DefP := ⟨fun K => He.ga K "law", "law", "law", C8.fnArgs (topS 59), C8.fnBody (topS 59), C8.fnScope (topS 59), []⟩
def fnL : List DefP := [df__law_pen, df__law_draw, df__law_pick, df__law_some_names, df__law_drawn_place, df__law_shuffled, df__law_drawn_roads, df__law_small, df__law_great, df_is_integer, df_is_between, df_is_size, df_is_list, df_is_name, df_is_tuple_of, df_is_price, df_are_prices, df_is_place, df_checked_places, df_is_road, df_checked_roads, df_new_Network, df__law_made, df__law_names_of, df_m_need_place, df_g_roads_from, df_searched, df_way, df__law_least_uses, df__law_right, df_law]
abbrev hk : PySem.W.Hook := hookP 5 exL fnL
def ob (s : PySem.W.SharedT) : AlP := obsPG 5 exL fnL (HandSHeadRun.getT s)
theorem ob_eq (s : PySem.W.SharedT) : ob s = hk.obs s.abs := obsPG_eq (HandSHeadRun.getT_eq s)
abbrev Rr : PySem.W.OpenRow := PySem.W.OpenLaw.row PySem.Challenge.rw_fillroads_k17_ways_of_least_use
abbrev lastS : Nat := 59
def loose : List Str := (["_wall", "MAX_PLACES", "MAX_ROADS", "MAX_SIZE", "searched", "way", "LETTERS", "MAX_LETTERS", "is_integer", "is_between", "is_list", "is_tuple_of", "is_name", "is_size", "is_price", "are_prices", "is_place", "is_road", "InvalidTank", "InvalidPlace"] : List Str) ++ (["InvalidRoad", "InvalidText", "OtherTank", "UnknownPlace", "TooMany", "DIGITS", "MAX_DIGITS", "NOTHING", "written", "network_text", "number_in", "is_price_word", "tank_in", "place_in", "road_in", "read_parts", "checked_places", "checked_roads", "need_fresh", "Network"] : List Str) ++ (["_law_pen", "_law_draw", "_law_pick", "_law_shuffled", "_law_some_names", "_law_drawn_place", "_law_drawn_roads", "_law_small", "_law_great", "_law_made", "_law_least_uses", "_law_names_of", "_law_right"] : List Str)
theorem run (w : World) : HandSHeadRun.RunEq Rr (PySem.W.view Rr.prog [lastS]) hk ob 40000 loose w := by
  intro os
  kernel_rfl
end DL

set_option maxHeartbeats 1000000
/-! The D layer: plain values, an abstract heap of plain objects, and how the model's state bears them. -/
namespace DL
open PySem PySem.Spec PyProof.Rows L2

/-- a plain value: lst, dct are lists and dicts that are never written any more; ref i is the i-th object of the abstract heap; cls c is a class of the text -/
inductive D where
  | non | bl (b : Bool) | int (i : Int) | str (x : Str) | tup (xs : List D) | lst (xs : List D) | dct (t : Bool) (ks xs : List D) | ref (i : Nat) | ty (n : String) | cls (c : Nat) | scr (ns : List Int)
/-- an object that may be written -/
inductive AO where
  | dead | lst (xs : List D) | dct (t : Bool) (kvs : List (D × D)) | lock (t : Bool) (kvs : List (D × D)) | ins (c : Nat) (fs : List (Nat × D))
abbrev Hh := List AO
abbrev St := L2.St
/-- an exception: its class, its fields -/
structure XD where
  c : Nat
  fs : List (Nat × D)
inductive Rs (α : Type) where
  | ok (a : α) (h : Hh) | ex (x : XD) (h : Hh) | no
def Rs.bd {α β : Type} (r : Rs α) (k : α → Hh → Rs β) : Rs β := match r with
  | .ok a h => k a h
  | .ex x h => .ex x h
  | .no => .no
theorem bd_ok {α β : Type} (a : α) (h : Hh) (k : α → Hh → Rs β) : (Rs.ok a h).bd k = k a h := rfl
theorem bd_ex {α β : Type} (x : XD) (h : Hh) (k : α → Hh → Rs β) : (Rs.ex x h).bd k = .ex x h := rfl
theorem bd_no {α β : Type} (k : α → Hh → Rs β) : (Rs.no : Rs α).bd k = .no := rfl
abbrev Env' := List (Option D)

/-- where the classes stand, what the attributes are called -/
structure G where
  K : PySem.W.Frag
  ca : Nat → Addr
  nm : Nat → Str
  nf : Nat
  inj : ∀ i j, i < nf → j < nf → nm i = nm j → i = j
/-- a class whose instances have our attributes and no others -/
structure ClsOk (g : G) (c : Nat) : Prop where
  cls : Cls g.K (g.ca c)
  no : ∀ f, f < g.nf → NoAttr g.K (g.ca c) (g.nm f)
/-- where the objects stand; hid: objects under way that nothing abstract names -/
structure Rho where
  l : List (Option Addr)
  hid : Addr → Prop
def Rho.Off (rho : Rho) (a : Addr) : Prop := some a ∉ rho.l ∧ ¬ rho.hid a
def Rho.add (rho : Rho) (p : Addr) : Rho := ⟨rho.l ++ [some p], rho.hid⟩
def Rho.del (rho : Rho) (i : Nat) : Rho := ⟨rho.l.set i none, rho.hid⟩

/-! ### how a value is borne -/
def keyOf : D → Option Key
  | .int i => some (.inl i)
  | .str x => some (.inr x)
  | _ => none
def allOf {κ : Type} (ko : D → Option κ) : List D → Option (List κ)
  | [] => some []
  | d :: ds => match ko d, allOf ko ds with
    | some k, some ks => some (k :: ks)
    | _, _ => none
abbrev keysOf := allOf keyOf
def tkeyOf : D → Option (List Key)
  | .tup xs => keysOf xs
  | _ => none
abbrev tkeysOf := allOf tkeyOf
section
variable (g : G) (rho : Rho) (H : Hp)
def TupAt (a : Addr) (vs : List V) : Prop := H a = some (.tup vs) ∧ rho.Off a
def LstAt (a : Addr) (vs : List V) : Prop := H a = some (.lst vs) ∧ rho.Off a
/-- a dict object with these keys and values; t: the keys are tuples -/
def DObj (t : Bool) (o : HO) (ks : List D) (vs : List V) : Prop := ks.length = vs.length ∧ match t with
  | false => ∃ kk, keysOf ks = some kk ∧ o = .dK (kk.zip vs)
  | true => ∃ kk, tkeysOf ks = some kk ∧ o = .dT (kk.zip vs)
def DctAt (t : Bool) (a : Addr) (ks : List D) (vs : List V) : Prop := ∃ o, H a = some o ∧ rho.Off a ∧ DObj t o ks vs
/-- the script: never written -/
def ScrAt (K : PySem.W.Frag) (rho : Rho) (H : Hp) (a : Addr) (ns : List Int) : Prop := (Rd H a (.lst (ns.map V.int)) ∧ rho.Off a) ∨
  ∃ (o : Obj) (its : Array Value) (n : Nat), K.lookup a = some o ∧ o.cls = .type "list" ∧ o.dict = none ∧ o.data = .seq its n ∧ its.size ≤ sizeLine ∧ Vals (ns.map V.int) its.toList
mutual
def Rp : D → V → Prop
  | .non, v => v = .non
  | .bl b, v => v = .bl b
  | .int i, v => v = .int i
  | .str x, v => v = .str x
  | .tup xs, v => ∃ a vs, v = .ref a ∧ TupAt rho H a vs ∧ RpL xs vs
  | .lst xs, v => ∃ a vs, v = .ref a ∧ LstAt rho H a vs ∧ RpL xs vs
  | .dct t ks xs, v => ∃ a vs, v = .ref a ∧ DctAt rho H t a ks vs ∧ RpL xs vs
  | .ref i, v => i < rho.l.length ∧ ∀ a, rho.l[i]? = some (some a) → v = .ref a
  | .ty n, v => v = .ty n
  | .cls c, v => v = .ref (g.ca c)
  | .scr ns, v => ∃ a, v = .ref a ∧ ScrAt g.K rho H a ns
def RpL : List D → List V → Prop
  | [], vs => vs = []
  | x :: xs, vs => ∃ v r, vs = v :: r ∧ Rp x v ∧ RpL xs r
end
/-- fields -/
def RpF : List (Nat × D) → List (Str × V) → Prop
  | [], fs => fs = []
  | (f, x) :: xs, fs => ∃ v r, fs = (g.nm f, v) :: r ∧ f < g.nf ∧ Rp g rho H x v ∧ RpF xs r
/-- an object is borne -/
def RO (o : AO) (i : Nat) : Prop := match o with
  | .dead => True
  | .lst xs => ∃ a vs, rho.l[i]? = some (some a) ∧ H a = some (.lst vs) ∧ RpL g rho H xs vs
  | .dct t kvs => ∃ a vs o, rho.l[i]? = some (some a) ∧ H a = some o ∧ DObj t o (kvs.map (·.1)) vs ∧ RpL g rho H (kvs.map (·.2)) vs
  | .lock t kvs => ∃ a vs o ob, rho.l[i]? = some (some a) ∧ H a = some (.frz ob o) ∧ DObj t o (kvs.map (·.1)) vs ∧ RpL g rho H (kvs.map (·.2)) vs
  | .ins c fs => ∃ a dx fvs, rho.l[i]? = some (some a) ∧ H a = some (.ins (g.ca c) dx fvs) ∧ ClsOk g c ∧ RpF g rho H fs fvs
end
/-- the abstract heap is borne -/
structure Sim (g : G) (rho : Rho) (h : Hh) (H : Hp) : Prop where
  len : rho.l.length = h.length
  inj : ∀ (i j : Nat) (a : Addr), rho.l[i]? = some (some a) → rho.l[j]? = some (some a) → i = j
  obj : ∀ (i : Nat) (o : AO), h[i]? = some o → RO g rho H o i
  liv : ∀ (i : Nat) (a : Addr), rho.l[i]? = some (some a) → ∃ o, H a = some o ∧ ∀ vs, o ≠ .tup vs
  hoc : ∀ a, rho.hid a → ∃ o, H a = some o ∧ ∀ vs, o ≠ .tup vs
  nh : ∀ (i : Nat) (a : Addr), rho.l[i]? = some (some a) → ¬ rho.hid a
/-- from one state to a later one -/
structure Ext (rho : Rho) (H : Hp) (rho' : Rho) (H' : Hp) : Prop where
  len : rho.l.length ≤ rho'.l.length
  old : ∀ (i : Nat) (a : Addr), i < rho.l.length → rho'.l[i]? = some (some a) → rho.l[i]? = some (some a)
  keep : ∀ (a : Addr) (o : HO), some a ∉ rho.l → H a = some o → H' a = some o
  off1 : ∀ (a : Addr) (o : HO), some a ∉ rho.l → H a = some o → some a ∉ rho'.l
  hid : ∀ a, rho.hid a → rho'.hid a
  hof : ∀ (a : Addr) (o : HO), H a = some o → ¬ rho.hid a → ¬ rho'.hid a
  occ : ∀ (a : Addr) (o : HO), H a = some o → ∃ o', H' a = some o'
  frz : ∀ (a : Addr) (ob : Obj) (u : HO), H a = some (.frz ob u) → H' a = some (.frz ob u)
theorem Ext.refl (rho : Rho) (H : Hp) : Ext rho H rho H := ⟨Nat.le_refl _, fun _ _ _ h => h, fun _ _ _ h => h, fun _ _ h _ => h, fun _ h => h, fun _ _ _ h => h, fun _ o h => ⟨o, h⟩, fun _ _ _ h => h⟩
theorem Ext.trans {r1 r2 r3 : Rho} {H1 H2 H3 : Hp} (a : Ext r1 H1 r2 H2) (b : Ext r2 H2 r3 H3) : Ext r1 H1 r3 H3 where
  len := Nat.le_trans a.len b.len
  old := fun i c hi e => a.old i c hi (b.old i c (Nat.lt_of_lt_of_le hi a.len) e)
  keep := fun c o hc e => b.keep c o (a.off1 c o hc e) (a.keep c o hc e)
  off1 := fun c o hc e => b.off1 c o (a.off1 c o hc e) (a.keep c o hc e)
  hid := fun c h => b.hid c (a.hid c h)
  hof := fun c o e h => let ⟨o1, e1⟩ := a.occ c o e; b.hof c o1 e1 (a.hof c o e h)
  occ := fun c o e => let ⟨o1, e1⟩ := a.occ c o e; b.occ c o1 e1
  frz := fun c o u e => b.frz c o u (a.frz c o u e)
theorem Ext.off {rho rho' : Rho} {H H' : Hp} (e : Ext rho H rho' H') (a : Addr) (o : HO) (n : rho.Off a) (h : H a = some o) : rho'.Off a := ⟨e.off1 a o n.1 h, e.hof a o h n.2⟩
section
variable {g : G} {rho rho' : Rho} {H H' : Hp}
theorem Rd.ext (e : Ext rho H rho' H') {a : Addr} {u : HO} (r : Rd H a u) (n : rho.Off a) : Rd H' a u ∧ rho'.Off a := by
  rcases r with r | ⟨o, r⟩
  · exact ⟨.inl (e.keep a _ n.1 r), e.off a _ n r⟩
  · exact ⟨.inr ⟨o, e.keep a _ n.1 r⟩, e.off a _ n r⟩
theorem TupAt.ext (e : Ext rho H rho' H') {a : Addr} {vs : List V} (t : TupAt rho H a vs) : TupAt rho' H' a vs := ⟨e.keep a _ t.2.1 t.1, e.off a _ t.2 t.1⟩
theorem LstAt.ext (e : Ext rho H rho' H') {a : Addr} {vs : List V} (t : LstAt rho H a vs) : LstAt rho' H' a vs := ⟨e.keep a _ t.2.1 t.1, e.off a _ t.2 t.1⟩
theorem DctAt.ext (e : Ext rho H rho' H') {b : Bool} {a : Addr} {ks : List D} {vs : List V} (t : DctAt rho H b a ks vs) : DctAt rho' H' b a ks vs := by
  obtain ⟨o, r, n, d⟩ := t
  exact ⟨o, e.keep a _ n.1 r, e.off a _ n r, d⟩
theorem ScrAt.ext {K : PySem.W.Frag} (e : Ext rho H rho' H') {a : Addr} {ns : List Int} (t : ScrAt K rho H a ns) : ScrAt K rho' H' a ns := by
  rcases t with ⟨t, n⟩ | t
  · exact .inl (Rd.ext e t n)
  · exact .inr t
theorem ScrAt.sql {K : PySem.W.Frag} {a : Addr} {ns : List Int} (t : ScrAt K rho H a ns) : SqL K H a (ns.map V.int) := by
  rcases t with ⟨t, n⟩ | t
  · exact .inl t
  · exact .inr t
mutual
theorem Rp.ext (e : Ext rho H rho' H') : ∀ (d : D) (v : V), Rp g rho H d v → Rp g rho' H' d v
  | .non, _, h => h
  | .bl _, _, h => h
  | .int _, _, h => h
  | .str _, _, h => h
  | .tup xs, v, h => by
    unfold Rp at h ⊢
    obtain ⟨a, vs, e1, t, l⟩ := h
    exact ⟨a, vs, e1, t.ext e, RpL.ext e xs vs l⟩
  | .lst xs, v, h => by
    unfold Rp at h ⊢
    obtain ⟨a, vs, e1, t, l⟩ := h
    exact ⟨a, vs, e1, t.ext e, RpL.ext e xs vs l⟩
  | .dct _ ks xs, v, h => by
    unfold Rp at h ⊢
    obtain ⟨a, vs, e1, t, l⟩ := h
    exact ⟨a, vs, e1, t.ext e, RpL.ext e xs vs l⟩
  | .ref i, v, h => by
    unfold Rp at h ⊢
    exact ⟨Nat.lt_of_lt_of_le h.1 e.len, fun a q => h.2 a (e.old i a h.1 q)⟩
  | .ty _, _, h => h
  | .cls _, _, h => h
  | .scr ns, v, h => by
    unfold Rp at h ⊢
    obtain ⟨a, e1, t⟩ := h
    exact ⟨a, e1, t.ext e⟩
theorem RpL.ext (e : Ext rho H rho' H') : ∀ (ds : List D) (vs : List V), RpL g rho H ds vs → RpL g rho' H' ds vs
  | [], _, h => h
  | d :: ds, vs, h => by
    unfold RpL at h ⊢
    obtain ⟨v, r, e1, h1, h2⟩ := h
    exact ⟨v, r, e1, Rp.ext e d v h1, RpL.ext e ds r h2⟩
end
theorem RpF.ext (e : Ext rho H rho' H') : ∀ (fs : List (Nat × D)) (vs : List (Str × V)), RpF g rho H fs vs → RpF g rho' H' fs vs
  | [], _, h => h
  | (f, d) :: ds, vs, h => by
    unfold RpF at h ⊢
    obtain ⟨v, r, e1, h0, h1, h2⟩ := h
    exact ⟨v, r, e1, h0, Rp.ext e d v h1, RpF.ext e ds r h2⟩
theorem RpL.length : ∀ {ds : List D} {vs : List V}, RpL g rho H ds vs → ds.length = vs.length
  | [], vs, h => by
    unfold RpL at h
    rw [h]
    rfl
  | d :: ds, vs, h => by
    unfold RpL at h
    obtain ⟨v, r, e1, _, h2⟩ := h
    rw [e1, List.length_cons, List.length_cons, RpL.length h2]
theorem RpL.get : ∀ {ds : List D} {vs : List V} {i : Nat} {d : D}, RpL g rho H ds vs → ds[i]? = some d → ∃ v, vs[i]? = some v ∧ Rp g rho H d v
  | [], _, _, _, _, e => by simp at e
  | d :: ds, vs, 0, x, h, e => by
    unfold RpL at h
    obtain ⟨v, r, e1, h1, _⟩ := h
    have e2 : d = x := by simpa using e
    subst e2 e1
    exact ⟨v, rfl, h1⟩
  | d :: ds, vs, i + 1, x, h, e => by
    unfold RpL at h
    obtain ⟨v, r, e1, _, h2⟩ := h
    obtain ⟨u, q1, q2⟩ := RpL.get (i := i) (d := x) h2 (by simpa using e)
    subst e1
    exact ⟨u, by simpa using q1, q2⟩
theorem RpL.nil : RpL g rho H [] [] := by unfold RpL; rfl
theorem RpL.cons {d : D} {v : V} {ds : List D} {vs : List V} (a : Rp g rho H d v) (b : RpL g rho H ds vs) : RpL g rho H (d :: ds) (v :: vs) := by
  unfold RpL
  exact ⟨v, vs, rfl, a, b⟩
theorem RpL.inv {d : D} {ds : List D} {vs : List V} (h : RpL g rho H (d :: ds) vs) : ∃ v r, vs = v :: r ∧ Rp g rho H d v ∧ RpL g rho H ds r := by
  unfold RpL at h
  exact h
theorem RpL.inv0 {vs : List V} (h : RpL g rho H [] vs) : vs = [] := by
  unfold RpL at h
  exact h
theorem RpL.app : ∀ {ds es : List D} {vs ws : List V}, RpL g rho H ds vs → RpL g rho H es ws → RpL g rho H (ds ++ es) (vs ++ ws)
  | [], _, _, _, h, k => by
    rw [RpL.inv0 h]
    exact k
  | d :: ds, es, vs, ws, h, k => by
    obtain ⟨v, r, e1, h1, h2⟩ := h.inv
    subst e1
    exact .cons h1 (RpL.app h2 k)
theorem RpL.set {d : D} {v : V} (r : Rp g rho H d v) : ∀ {ds : List D} {vs : List V} (i : Nat), RpL g rho H ds vs → RpL g rho H (ds.set i d) (vs.set i v)
  | [], vs, i, h => by
    rw [RpL.inv0 h]
    exact .nil
  | x :: ds, vs, i, h => by
    obtain ⟨w, q, e1, h1, h2⟩ := h.inv
    subst e1
    cases i with
    | zero => exact .cons r h2
    | succ i => exact .cons h1 (RpL.set r i h2)
theorem RpL.take : ∀ {ds : List D} {vs : List V} (n : Nat), RpL g rho H ds vs → RpL g rho H (ds.take n) (vs.take n)
  | [], vs, n, h => by
    rw [RpL.inv0 h, List.take_nil, List.take_nil]
    exact .nil
  | x :: ds, vs, n, h => by
    obtain ⟨w, q, e1, h1, h2⟩ := h.inv
    subst e1
    cases n with
    | zero => exact .nil
    | succ n => exact .cons h1 (RpL.take n h2)
theorem RpL.drop : ∀ {ds : List D} {vs : List V} (n : Nat), RpL g rho H ds vs → RpL g rho H (ds.drop n) (vs.drop n)
  | [], vs, n, h => by
    rw [RpL.inv0 h, List.drop_nil, List.drop_nil]
    exact .nil
  | x :: ds, vs, n, h => by
    obtain ⟨w, q, e1, h1, h2⟩ := h.inv
    subst e1
    cases n with
    | zero => exact .cons h1 h2
    | succ n => exact RpL.drop n h2
theorem RpL.rev {ds : List D} {vs : List V} (h : RpL g rho H ds vs) : RpL g rho H ds.reverse vs.reverse := by
  induction ds generalizing vs with
  | nil => rw [RpL.inv0 h]; exact .nil
  | cons d ds ih =>
    obtain ⟨v, r, e1, h1, h2⟩ := h.inv
    subst e1
    rw [List.reverse_cons, List.reverse_cons]
    exact (ih h2).app (.cons h1 .nil)
theorem RpL.erase : ∀ {ds : List D} {vs : List V} (i : Nat), RpL g rho H ds vs → RpL g rho H (ds.eraseIdx i) (vs.eraseIdx i)
  | [], vs, i, h => by
    rw [RpL.inv0 h]
    exact .nil
  | x :: ds, vs, i, h => by
    obtain ⟨w, q, e1, h1, h2⟩ := h.inv
    subst e1
    cases i with
    | zero => exact h2
    | succ i => exact .cons h1 (RpL.erase i h2)
theorem RpL.at_ : ∀ {ds : List D} {vs : List V} {i : Nat} {v : V}, RpL g rho H ds vs → vs[i]? = some v → ∃ d, ds[i]? = some d ∧ Rp g rho H d v
  | [], vs, i, v, h, e => by
    rw [RpL.inv0 h] at e
    simp at e
  | d :: ds, vs, i, x, h, e => by
    obtain ⟨w, q, e1, h1, h2⟩ := h.inv
    subst e1
    cases i with
    | zero =>
      have e2 : w = x := by simpa using e
      subst e2
      exact ⟨d, rfl, h1⟩
    | succ i =>
      obtain ⟨u, q1, q2⟩ := RpL.at_ (i := i) (v := x) h2 (by simpa using e)
      exact ⟨u, by simpa using q1, q2⟩

/-! ### the heap steps -/
/-- a new thing that the abstract heap does not know -/
theorem Ext.fresh {p : Addr} {o : HO} (n : H p = none) : Ext rho H rho (upd H p o) where
  len := Nat.le_refl _
  old := fun _ _ _ e => e
  keep := fun a u _ e => by rw [upd_ne (ne_of_none e n)]; exact e
  off1 := fun _ _ h _ => h
  hid := fun _ h => h
  hof := fun _ _ _ h => h
  frz := fun a ob u e => by rw [upd_ne (ne_of_none e n)]; exact e
  occ := fun a u e => by
    by_cases q : a = p
    · rw [q] at e; rw [n] at e; cases e
    · exact ⟨u, by rw [upd_ne q]; exact e⟩
theorem Sim.off {h : Hh} (S : Sim g rho h H) {p : Addr} (n : H p = none) : rho.Off p := by
  refine ⟨fun hm => ?_, fun hm => ?_⟩
  · obtain ⟨i, hi⟩ := List.getElem?_of_mem hm
    obtain ⟨o, e, _⟩ := S.liv i p hi
    rw [n] at e; cases e
  · obtain ⟨o, e, _⟩ := S.hoc p hm
    rw [n] at e; cases e
theorem RO.ext {i : Nat} {o : AO} (e : Ext rho H rho' H') (k : ∀ a, rho.l[i]? = some (some a) → rho'.l[i]? = some (some a) ∧ H' a = H a) (r : RO g rho H o i) : RO g rho' H' o i := by
  cases o with
  | dead => trivial
  | lst xs =>
    obtain ⟨a, vs, h1, h2, h3⟩ := r
    obtain ⟨k1, k2⟩ := k a h1
    exact ⟨a, vs, k1, by rw [k2]; exact h2, h3.ext e⟩
  | dct t kvs =>
    obtain ⟨a, vs, o, h1, h2, h3, h4⟩ := r
    obtain ⟨k1, k2⟩ := k a h1
    exact ⟨a, vs, o, k1, by rw [k2]; exact h2, h3, h4.ext e⟩
  | lock t kvs =>
    obtain ⟨a, vs, o, ob, h1, h2, h3, h4⟩ := r
    obtain ⟨k1, k2⟩ := k a h1
    exact ⟨a, vs, o, ob, k1, by rw [k2]; exact h2, h3, h4.ext e⟩
  | ins c fs =>
    obtain ⟨a, dx, fvs, h1, h2, h0, h3⟩ := r
    obtain ⟨k1, k2⟩ := k a h1
    exact ⟨a, dx, fvs, k1, by rw [k2]; exact h2, h0, RpF.ext e _ _ h3⟩
theorem Sim.fresh {h : Hh} (S : Sim g rho h H) {p : Addr} {o : HO} (n : H p = none) : Sim g rho h (upd H p o) where
  len := S.len
  inj := S.inj
  obj := fun i u e => (S.obj i u e).ext (Ext.fresh n) fun a ha => ⟨ha, upd_ne (fun q => (S.off n).1 (by rw [← q]; exact List.mem_of_getElem? ha))⟩
  nh := S.nh
  hoc := fun a ha => by
    obtain ⟨u, e, nt⟩ := S.hoc a ha
    exact ⟨u, by rw [upd_ne (ne_of_none e n)]; exact e, nt⟩
  liv := fun i a ha => by
    rw [upd_ne (fun q => (S.off n).1 (by rw [← q]; exact List.mem_of_getElem? ha))]
    exact S.liv i a ha
/-- a new object of the abstract heap -/
theorem Ext.new {p : Addr} {o : HO} (n : H p = none) : Ext rho H (rho.add p) (upd H p o) where
  len := by simp [Rho.add]
  old := fun i a hi e => by unfold Rho.add at e; rw [List.getElem?_append_left hi] at e; exact e
  keep := fun a u _ e => by rw [upd_ne (ne_of_none e n)]; exact e
  hid := fun _ h => h
  hof := fun _ _ _ h => h
  off1 := fun a u h e => by
    intro q
    rcases List.mem_append.mp q with q | q
    · exact h q
    · have z : a = p := by simpa using q
      rw [z, n] at e; cases e
  occ := fun a u e => ⟨u, by rw [upd_ne (ne_of_none e n)]; exact e⟩
  frz := fun a ob u e => by rw [upd_ne (ne_of_none e n)]; exact e
theorem Sim.new {h : Hh} (S : Sim g rho h H) {p : Addr} {o : HO} {u : AO} (n : H p = none) (hu : RO g (rho.add p) (upd H p o) u h.length) (ht : ∀ vs, o ≠ .tup vs) : Sim g (rho.add p) (h ++ [u]) (upd H p o) where
  len := by simp [Rho.add, S.len]
  inj := fun i j a hi hj => by
    have off := (S.off n).1
    have key : ∀ k, (rho.add p).l[k]? = some (some a) → (k < rho.l.length ∧ rho.l[k]? = some (some a)) ∨ (k = rho.l.length ∧ a = p) := fun k hk => by
      unfold Rho.add at hk
      by_cases q : k < rho.l.length
      · rw [List.getElem?_append_left q] at hk
        exact .inl ⟨q, hk⟩
      · rw [List.getElem?_append_right (by omega)] at hk
        have z : k - rho.l.length = 0 := by
          cases e : k - rho.l.length with
          | zero => rfl
          | succ m => rw [e] at hk; simp at hk
        rw [z] at hk
        exact .inr ⟨by omega, by have y : p = a := by simpa using hk
                                 exact y.symm⟩
    rcases key i hi with ⟨_, a1⟩ | ⟨i1, a1⟩
    · rcases key j hj with ⟨_, b1⟩ | ⟨_, b1⟩
      · exact S.inj i j a a1 b1
      · exact absurd (by rw [← b1]; exact List.mem_of_getElem? a1) off
    · rcases key j hj with ⟨_, b1⟩ | ⟨j1, _⟩
      · exact absurd (by rw [← a1]; exact List.mem_of_getElem? b1) off
      · rw [i1, j1]
  obj := fun i v e => by
    by_cases q : i < h.length
    · rw [List.getElem?_append_left q] at e
      refine (S.obj i v e).ext (Ext.new n) fun a ha => ⟨?_, upd_ne (fun z => (S.off n).1 (by rw [← z]; exact List.mem_of_getElem? ha))⟩
      unfold Rho.add
      rw [List.getElem?_append_left (by rw [S.len]; exact q)]
      exact ha
    · rw [List.getElem?_append_right (by omega)] at e
      have z : i - h.length = 0 := by
        cases e2 : i - h.length with
        | zero => rfl
        | succ m => rw [e2] at e; simp at e
      rw [z] at e
      have y : u = v := by simpa using e
      have x : i = h.length := by omega
      subst y x
      exact hu
  nh := fun i a ha hh => by
    unfold Rho.add at ha
    by_cases q : i < rho.l.length
    · rw [List.getElem?_append_left q] at ha
      exact S.nh i a ha hh
    · rw [List.getElem?_append_right (by omega)] at ha
      have z : i - rho.l.length = 0 := by
        cases e2 : i - rho.l.length with
        | zero => rfl
        | succ m => rw [e2] at ha; simp at ha
      rw [z] at ha
      have y : p = a := by simpa using ha
      subst y
      exact (S.off n).2 hh
  hoc := fun a ha => by
    obtain ⟨u, e, nt⟩ := S.hoc a ha
    exact ⟨u, by rw [upd_ne (ne_of_none e n)]; exact e, nt⟩
  liv := fun i a ha => by
    unfold Rho.add at ha
    by_cases q : i < rho.l.length
    · rw [List.getElem?_append_left q] at ha
      rw [upd_ne (fun z => (S.off n).1 (by rw [← z]; exact List.mem_of_getElem? ha))]
      exact S.liv i a ha
    · rw [List.getElem?_append_right (by omega)] at ha
      have z : i - rho.l.length = 0 := by
        cases e2 : i - rho.l.length with
        | zero => rfl
        | succ m => rw [e2] at ha; simp at ha
      rw [z] at ha
      have y : p = a := by simpa using ha
      subst y
      exact ⟨o, upd_same, ht⟩
/-- what holds with q hidden holds without the object there -/
structure Bare (rho : Rho) (H : Hp) (r2 : Rho) (H2 : Hp) (p : Addr) : Prop where
  l : r2.l = rho.l
  off : ∀ a o, rho.Off a → H a = some o → a ≠ p ∧ r2.Off a
  at_ : ∀ a, a ≠ p → H2 a = H a
section
variable {r2 : Rho} {H2 : Hp} {p : Addr} (b : Bare rho H r2 H2 p)
include b
theorem Rd.bare {a : Addr} {u : HO} (r : Rd H a u) (n : rho.Off a) : Rd H2 a u ∧ r2.Off a := by
  rcases r with r | ⟨o, r⟩
  all_goals obtain ⟨h1, h2⟩ := b.off a _ n r
  · exact ⟨.inl (by rw [b.at_ a h1]; exact r), h2⟩
  · exact ⟨.inr ⟨o, by rw [b.at_ a h1]; exact r⟩, h2⟩
mutual
theorem Rp.bare : ∀ (d : D) (v : V), Rp g rho H d v → Rp g r2 H2 d v
  | .non, v, h => by unfold Rp at h ⊢; exact h
  | .bl _, v, h => by unfold Rp at h ⊢; exact h
  | .int _, v, h => by unfold Rp at h ⊢; exact h
  | .str _, v, h => by unfold Rp at h ⊢; exact h
  | .ty _, v, h => by unfold Rp at h ⊢; exact h
  | .cls _, v, h => by unfold Rp at h ⊢; exact h
  | .scr _, v, h => by
    unfold Rp at h ⊢
    obtain ⟨a, e, t⟩ := h
    refine ⟨a, e, ?_⟩
    rcases t with ⟨t, n⟩ | t
    · refine .inl ?_
      rcases t with t | ⟨o, t⟩
      · obtain ⟨h1, h2⟩ := b.off a _ n t
        exact ⟨.inl (by rw [b.at_ a h1]; exact t), h2⟩
      · obtain ⟨h1, h2⟩ := b.off a _ n t
        exact ⟨.inr ⟨o, by rw [b.at_ a h1]; exact t⟩, h2⟩
    · exact .inr t
  | .ref i, v, h => by unfold Rp at h ⊢; rw [b.l]; exact h
  | .tup xs, v, h => by
    unfold Rp at h ⊢
    obtain ⟨a, vs, e, t, l⟩ := h
    obtain ⟨h1, h2⟩ := b.off a _ t.2 t.1
    exact ⟨a, vs, e, ⟨by rw [b.at_ a h1]; exact t.1, h2⟩, RpL.bare xs vs l⟩
  | .lst xs, v, h => by
    unfold Rp at h ⊢
    obtain ⟨a, vs, e, t, l⟩ := h
    obtain ⟨h1, h2⟩ := b.off a _ t.2 t.1
    exact ⟨a, vs, e, ⟨by rw [b.at_ a h1]; exact t.1, h2⟩, RpL.bare xs vs l⟩
  | .dct t ks xs, v, h => by
    unfold Rp at h ⊢
    obtain ⟨a, vs, e, ⟨o, r, n, d⟩, l⟩ := h
    obtain ⟨h1, h2⟩ := b.off a _ n r
    exact ⟨a, vs, e, ⟨o, by rw [b.at_ a h1]; exact r, h2, d⟩, RpL.bare xs vs l⟩
theorem RpL.bare : ∀ (ds : List D) (vs : List V), RpL g rho H ds vs → RpL g r2 H2 ds vs
  | [], vs, h => by unfold RpL at h ⊢; exact h
  | d :: ds, vs, h => by
    unfold RpL at h ⊢
    obtain ⟨v, r, e, h1, h2⟩ := h
    exact ⟨v, r, e, Rp.bare d v h1, RpL.bare ds r h2⟩
end
theorem RpF.bare : ∀ (fs : List (Nat × D)) (vs : List (Str × V)), RpF g rho H fs vs → RpF g r2 H2 fs vs
  | [], vs, h => by unfold RpF at h ⊢; exact h
  | (f, d) :: ds, vs, h => by
    unfold RpF at h ⊢
    obtain ⟨v, r, e, n, h1, h2⟩ := h
    exact ⟨v, r, e, n, Rp.bare b d v h1, RpF.bare ds r h2⟩
theorem RO.bareK {i : Nat} {o : AO} (k : ∀ a, rho.l[i]? = some (some a) → r2.l[i]? = some (some a) ∧ H2 a = H a) (r : RO g rho H o i) : RO g r2 H2 o i := by
  cases o with
  | dead => trivial
  | lst xs =>
    obtain ⟨a, vs, h1, h2, h3⟩ := r
    obtain ⟨k1, k2⟩ := k a h1
    exact ⟨a, vs, k1, by rw [k2]; exact h2, RpL.bare b _ _ h3⟩
  | dct t kvs =>
    obtain ⟨a, vs, o, h1, h2, h3, h4⟩ := r
    obtain ⟨k1, k2⟩ := k a h1
    exact ⟨a, vs, o, k1, by rw [k2]; exact h2, h3, RpL.bare b _ _ h4⟩
  | lock t kvs =>
    obtain ⟨a, vs, o, ob, h1, h2, h3, h4⟩ := r
    obtain ⟨k1, k2⟩ := k a h1
    exact ⟨a, vs, o, ob, k1, by rw [k2]; exact h2, h3, RpL.bare b _ _ h4⟩
  | ins c fs =>
    obtain ⟨a, dx, fvs, h1, h2, h0, h3⟩ := r
    obtain ⟨k1, k2⟩ := k a h1
    exact ⟨a, dx, fvs, k1, by rw [k2]; exact h2, h0, RpF.bare b _ _ h3⟩
theorem RO.bare (hp : some p ∉ rho.l) {i : Nat} {o : AO} (r : RO g rho H o i) : RO g r2 H2 o i :=
  RO.bareK b (fun a ha => ⟨by rw [b.l]; exact ha, b.at_ a fun q => hp (by rw [← q]; exact List.mem_of_getElem? ha)⟩) r
end
/-- an object that has a place may change -/
theorem bare_at {i : Nat} {p : Addr} {o : HO} (ha : rho.l[i]? = some (some p)) : Bare rho H rho (upd H p o) p := ⟨rfl, fun a u n _ => ⟨fun q => n.1 (by rw [q]; exact List.mem_of_getElem? ha), n⟩, fun a q => upd_ne q⟩
/-- an object is written -/
theorem Ext.write {i : Nat} {a : Addr} {o : HO} (ha : rho.l[i]? = some (some a)) (hn : ∀ ob u, H a ≠ some (.frz ob u)) : Ext rho H rho (upd H a o) where
  len := Nat.le_refl _
  old := fun _ _ _ e => e
  keep := fun b u hb e => by
    rw [upd_ne (fun q => hb (by rw [q]; exact List.mem_of_getElem? ha))]
    exact e
  off1 := fun _ _ h _ => h
  hid := fun _ h => h
  hof := fun _ _ _ h => h
  frz := fun b ob u e => by rw [upd_ne (fun q => hn ob u (by rw [← q]; exact e))]; exact e
  occ := fun b u e => by
    by_cases q : b = a
    · exact ⟨o, by rw [q]; exact upd_same⟩
    · exact ⟨u, by rw [upd_ne q]; exact e⟩
theorem Sim.write {h : Hh} (S : Sim g rho h H) {i : Nat} {a : Addr} {o : HO} {u : AO} (ha : rho.l[i]? = some (some a)) (hu : RO g rho (upd H a o) u i) (ht : ∀ vs, o ≠ .tup vs) : Sim g rho (h.set i u) (upd H a o) where
  len := by rw [List.length_set]; exact S.len
  inj := S.inj
  obj := fun j v e => by
    by_cases q : j = i
    · subst q
      have hj : j < h.length := by rw [← S.len]; exact (List.getElem?_eq_some_iff.mp ha).1
      rw [List.getElem?_set_self hj] at e
      have y : u = v := by simpa using e
      subst y
      exact hu
    · rw [List.getElem?_set_ne (fun z => q z.symm)] at e
      refine RO.bareK (bare_at ha) (fun b hb => ⟨hb, upd_ne (fun z => ?_)⟩) (S.obj j v e)
      subst z
      exact q (S.inj j i _ hb ha)
  nh := S.nh
  hoc := fun b hb => by
    obtain ⟨u, e, nt⟩ := S.hoc b hb
    by_cases q : b = a
    · exact ⟨o, by rw [q]; exact upd_same, ht⟩
    · exact ⟨u, by rw [upd_ne q]; exact e, nt⟩
  liv := fun j b hb => by
    by_cases q : b = a
    · subst q
      exact ⟨o, upd_same, ht⟩
    · rw [upd_ne q]
      exact S.liv j b hb
/-- an object is given up: what it held stands for ever -/
theorem Ext.drop {i : Nat} : Ext rho H (rho.del i) H where
  len := by unfold Rho.del; rw [List.length_set]; exact Nat.le_refl _
  hid := fun _ h => h
  hof := fun _ _ _ h => h
  old := fun j a hj e => by
    unfold Rho.del at e
    by_cases q : j = i
    · subst q
      rw [List.getElem?_set_self hj] at e
      simp at e
    · rw [List.getElem?_set_ne (fun z => q z.symm)] at e
      exact e
  keep := fun _ _ _ e => e
  off1 := fun a _ hb _ hm => by
    rcases List.mem_or_eq_of_mem_set hm with z | z
    · exact hb z
    · cases z
  occ := fun _ o e => ⟨o, e⟩
  frz := fun _ _ _ e => e
theorem Sim.drop {h : Hh} (S : Sim g rho h H) (i : Nat) : Sim g (rho.del i) (h.set i .dead) H where
  len := by unfold Rho.del; rw [List.length_set, List.length_set]; exact S.len
  hoc := S.hoc
  nh := fun m a hm => by
    unfold Rho.del at hm
    by_cases q : m = i
    · subst q
      rw [List.getElem?_set] at hm
      simp at hm
    · rw [List.getElem?_set_ne (fun z => q z.symm)] at hm
      exact S.nh m a hm
  inj := fun j k a hj hk => by
    have key : ∀ m, (rho.del i).l[m]? = some (some a) → rho.l[m]? = some (some a) := fun m hm => by
      unfold Rho.del at hm
      by_cases q : m = i
      · subst q
        rw [List.getElem?_set] at hm
        simp at hm
      · rw [List.getElem?_set_ne (fun z => q z.symm)] at hm
        exact hm
    exact S.inj j k a (key j hj) (key k hk)
  obj := fun j v e => by
    by_cases q : j = i
    · subst q
      rw [List.getElem?_set] at e
      have y : AO.dead = v := by
        by_cases z : j < h.length
        · simpa [z] using e
        · simp [z] at e
      subst y
      trivial
    · rw [List.getElem?_set_ne (fun z => q z.symm)] at e
      refine (S.obj j v e).ext Ext.drop fun b hb => ⟨?_, rfl⟩
      unfold Rho.del
      rw [List.getElem?_set_ne (fun z => q z.symm)]
      exact hb
  liv := fun j b hb => by
    have hb' : rho.l[j]? = some (some b) := by
      unfold Rho.del at hb
      by_cases q : j = i
      · subst q
        rw [List.getElem?_set] at hb
        simp at hb
      · rw [List.getElem?_set_ne (fun z => q z.symm)] at hb
        exact hb
    exact S.liv j b hb'
/-! ### an object under way -/
def Rho.hide (rho : Rho) (p : Addr) : Rho := ⟨rho.l, fun a => a = p ∨ rho.hid a⟩
/-- the state without the object at p -/
def without (H : Hp) (p : Addr) : Hp := fun a => if a = p then none else H a
theorem without_ne {p a : Addr} (q : a ≠ p) : without H p a = H a := if_neg q
theorem without_same {p : Addr} : without H p p = none := if_pos rfl
theorem upd_without {p : Addr} {o : HO} : upd (without H p) p o = upd H p o := by
  funext a
  by_cases q : a = p
  · subst q; rw [upd_same, upd_same]
  · rw [upd_ne q, upd_ne q, without_ne q]
theorem upd_back {p : Addr} {o : HO} (h : H p = some o) : upd (without H p) p o = H := by
  funext a
  by_cases q : a = p
  · subst q; rw [upd_same, h]
  · rw [upd_ne q, without_ne q]
/-- the object at p out of sight: its content may change -/
theorem bare_upd {p : Addr} {o : HO} : Bare (rho.hide p) H (rho.hide p) (upd H p o) p := ⟨rfl, fun a _ n _ => ⟨fun q => n.2 (.inl q), n⟩, fun a q => upd_ne q⟩
/-- .. or the object may go -/
theorem bare_out {p : Addr} : Bare (rho.hide p) H rho (without H p) p := ⟨rfl, fun a _ n _ => ⟨fun q => n.2 (.inl q), n.1, fun z => n.2 (.inr z)⟩, fun a q => without_ne q⟩
/-- .. or come -/
theorem bare_in {p : Addr} {o : HO} (hp : H p = none) : Bare rho H (rho.hide p) (upd H p o) p := ⟨rfl, fun a u n e => ⟨ne_of_none e hp, n.1, fun z => by
  rcases z with z | z
  · exact ne_of_none e hp z
  · exact n.2 z⟩, fun a q => upd_ne q⟩
theorem Sim.hidden {h : Hh} (S : Sim g (rho.hide p) h H) (hp : some p ∉ rho.l) {o : HO} (ht : ∀ vs, o ≠ .tup vs) : Sim g (rho.hide p) h (upd H p o) where
  len := S.len
  inj := S.inj
  nh := S.nh
  obj := fun i u e => RO.bare bare_upd hp (S.obj i u e)
  liv := fun i a ha => by
    rw [upd_ne (fun q => hp (by rw [← q]; exact List.mem_of_getElem? ha))]
    exact S.liv i a ha
  hoc := fun a ha => by
    by_cases q : a = p
    · exact ⟨o, by rw [q]; exact upd_same, ht⟩
    · obtain ⟨u, e, nt⟩ := S.hoc a ha
      exact ⟨u, by rw [upd_ne q]; exact e, nt⟩
theorem Sim.out {h : Hh} {p : Addr} (S : Sim g (rho.hide p) h H) (hp : rho.Off p) : Sim g rho h (without H p) where
  len := S.len
  inj := S.inj
  nh := fun i a ha hh => S.nh i a ha (.inr hh)
  obj := fun i u e => RO.bare bare_out hp.1 (S.obj i u e)
  liv := fun i a ha => by
    rw [without_ne (fun q => hp.1 (by rw [← q]; exact List.mem_of_getElem? ha))]
    exact S.liv i a ha
  hoc := fun a ha => by
    obtain ⟨u, e, nt⟩ := S.hoc a (.inr ha)
    exact ⟨u, by rw [without_ne (fun q => hp.2 (by rw [← q]; exact ha))]; exact e, nt⟩
theorem Sim.in_ {h : Hh} {p : Addr} {o : HO} (S : Sim g rho h H) (n : H p = none) (ht : ∀ vs, o ≠ .tup vs) : Sim g (rho.hide p) h (upd H p o) := by
  have off := S.off n
  have S' := S.fresh (o := o) n
  refine ⟨S.len, S.inj, fun i u e => RO.bare (bare_in n) off.1 (S.obj i u e), S'.liv, fun a ha => ?_, fun i a ha hh => ?_⟩
  · rcases ha with q | q
    · exact ⟨o, by rw [q]; exact upd_same, ht⟩
    · exact S'.hoc a q
  · rcases hh with q | q
    · exact off.1 (by rw [← q]; exact List.mem_of_getElem? ha)
    · exact S.nh i a ha q
theorem Ext.in_ {p : Addr} {o : HO} (n : H p = none) : Ext rho H (rho.hide p) (upd H p o) where
  len := Nat.le_refl _
  old := fun _ _ _ e => e
  keep := fun a u _ e => by rw [upd_ne (ne_of_none e n)]; exact e
  off1 := fun _ _ h _ => h
  hid := fun _ h => .inr h
  hof := fun a u e h z => by
    rcases z with z | z
    · exact ne_of_none e n z
    · exact h z
  occ := fun a u e => ⟨u, by rw [upd_ne (ne_of_none e n)]; exact e⟩
  frz := fun a ob u e => by rw [upd_ne (ne_of_none e n)]; exact e
def Rho.show_ (rho : Rho) (p : Addr) : Rho := ⟨rho.l, fun a => a ≠ p ∧ rho.hid a⟩
theorem Rho.hide_show {p : Addr} (h : rho.hid p) : (rho.show_ p).hide p = rho := by
  cases rho
  unfold Rho.hide Rho.show_
  congr 1
  funext a
  apply propext
  constructor
  · intro z
    rcases z with z | z
    · rw [z]; exact h
    · exact z.2
  · intro z
    by_cases q : a = p
    · exact .inl q
    · exact .inr ⟨q, z⟩
/-- from before the object came to after it went -/
theorem Ext.out {r1 : Rho} {H1 : Hp} {p : Addr} (n : H1 p = none) (off : ¬ r1.hid p) (e : Ext r1 H1 (rho.hide p) H) : Ext r1 H1 rho (without H p) where
  len := e.len
  old := e.old
  keep := fun a u ha h => by rw [without_ne (ne_of_none h n)]; exact e.keep a u ha h
  off1 := fun a u ha h => e.off1 a u ha h
  hid := fun a h => by
    rcases e.hid a h with z | z
    · exact absurd (by rw [← z]; exact h) off
    · exact z
  hof := fun a u h z y => e.hof a u h z (.inr y)
  occ := fun a u h => by rw [without_ne (ne_of_none h n)]; exact e.occ a u h
  frz := fun a ob u h => by rw [without_ne (ne_of_none h n)]; exact e.frz a ob u h
/-- .. and what it held is written -/
theorem Ext.wr {r1 : Rho} {H1 : Hp} {p : Addr} {o : HO} (n : H1 p = none) (e : Ext r1 H1 rho H) : Ext r1 H1 rho (upd H p o) where
  len := e.len
  old := e.old
  keep := fun a u ha h => by rw [upd_ne (ne_of_none h n)]; exact e.keep a u ha h
  off1 := e.off1
  hid := e.hid
  hof := e.hof
  occ := fun a u h => by rw [upd_ne (ne_of_none h n)]; exact e.occ a u h
  frz := fun a ob u h => by rw [upd_ne (ne_of_none h n)]; exact e.frz a ob u h
theorem Sim.wr {h : Hh} {p : Addr} {o : HO} (S : Sim g rho h H) (hh : rho.hid p) (hp : some p ∉ rho.l) (ht : ∀ vs, o ≠ .tup vs) : Sim g rho h (upd H p o) := by
  have := Sim.hidden (rho := rho.show_ p) (p := p) (o := o) (by rw [Rho.hide_show hh]; exact S) hp ht
  rw [Rho.hide_show hh] at this
  exact this
theorem bare_wr {p : Addr} {o : HO} (hh : rho.hid p) : Bare rho H rho (upd H p o) p := by
  have := bare_upd (rho := rho.show_ p) (H := H) (p := p) (o := o)
  rw [Rho.hide_show hh] at this
  exact this
theorem bare_go {p : Addr} (hh : rho.hid p) : Bare rho H (rho.show_ p) (without H p) p := by
  have := bare_out (rho := rho.show_ p) (H := H) (p := p)
  rw [Rho.hide_show hh] at this
  exact this
theorem Sim.go {h : Hh} {p : Addr} (S : Sim g rho h H) (hh : rho.hid p) (hp : some p ∉ rho.l) : Sim g (rho.show_ p) h (without H p) :=
  Sim.out (rho := rho.show_ p) (p := p) (by rw [Rho.hide_show hh]; exact S) ⟨hp, fun z => z.1 rfl⟩
theorem Ext.go {r1 : Rho} {H1 : Hp} {p : Addr} (n : H1 p = none) (off : ¬ r1.hid p) (hh : rho.hid p) (e : Ext r1 H1 rho H) : Ext r1 H1 (rho.show_ p) (without H p) :=
  Ext.out n off (by rw [Rho.hide_show hh]; exact e)
/-! ### a dict that is walked -/
theorem DObj.mut {t : Bool} {o : HO} {ks : List D} {vs : List V} (d : DObj t o ks vs) : Mut (some o) ∧ (∀ ws, o ≠ .tup ws) ∧ ∀ ob u, o ≠ .frz ob u := by
  obtain ⟨_, d⟩ := d
  cases t with
  | false => obtain ⟨kk, _, rfl⟩ := d; exact ⟨trivial, (fun _ z => nomatch z), (fun _ _ z => nomatch z)⟩
  | true => obtain ⟨kk, _, rfl⟩ := d; exact ⟨trivial, (fun _ z => nomatch z), (fun _ _ z => nomatch z)⟩
theorem Sim.lock {h : Hh} (S : Sim g rho h H) {i : Nat} {t : Bool} {kvs : List (D × D)} (e : h[i]? = some (.dct t kvs)) : ∃ a o, rho.l[i]? = some (some a) ∧ H a = some o ∧ Mut (some o) ∧ (∀ ob u, o ≠ .frz ob u) ∧
    ∀ od, Sim g rho (h.set i (.lock t kvs)) (upd H a (.frz od o)) ∧ Ext rho H rho (upd H a (.frz od o)) := by
  obtain ⟨a, vs, o, k1, k2, k3, k4⟩ := S.obj i _ e
  obtain ⟨m1, m2, m3⟩ := k3.mut
  have hn : ∀ ob u, H a ≠ some (.frz ob u) := fun ob u z => m3 ob u (by rw [k2] at z; exact Option.some.inj z)
  exact ⟨a, o, k1, k2, m1, m3, fun od => ⟨S.write k1 ⟨a, vs, o, od, k1, upd_same, k3, RpL.bare (bare_at k1) _ _ k4⟩ (fun _ z => nomatch z), Ext.write k1 hn⟩⟩
theorem Sim.unlock {rho' : Rho} {h' : Hh} {H' : Hp} {a : Addr} {o : HO} {od : Obj} {i : Nat} {t : Bool} {kvs : List (D × D)} (hk : rho.l[i]? = some (some a)) (hH : H a = some o) (nf : ∀ ob u, o ≠ .frz ob u) (e : Ext rho (upd H a (.frz od o)) rho' H') (S : Sim g rho' h' H') (q : h'[i]? = some (.lock t kvs)) :
    H' a = some (.frz od o) ∧ Sim g rho' (h'.set i (.dct t kvs)) (upd H' a o) ∧ Ext rho H rho' (upd H' a o) := by
  have hf := e.frz a od o upd_same
  obtain ⟨a', vs, o', ob, k1, k2, k3, k4⟩ := S.obj i _ q
  have hi : i < rho.l.length := (List.getElem?_eq_some_iff.mp hk).1
  have ea := e.old i a' hi k1
  rw [hk] at ea
  cases ea
  rw [hf] at k2
  cases k2
  obtain ⟨m1, m2, m3⟩ := k3.mut
  refine ⟨hf, S.write k1 ⟨a, vs, o, k1, upd_same, k3, RpL.bare (bare_at k1) _ _ k4⟩ m2, e.len, e.old, fun b u hb hu => ?_, fun b u hb hu => ?_, e.hid, fun b u hu => ?_, fun b u hu => ?_, fun b ob u hu => ?_⟩
  · have ne : b ≠ a := fun z => hb (by rw [z]; exact List.mem_of_getElem? hk)
    rw [upd_ne ne]
    exact e.keep b u hb (by rw [upd_ne ne]; exact hu)
  · have ne : b ≠ a := fun z => hb (by rw [z]; exact List.mem_of_getElem? hk)
    exact e.off1 b u hb (by rw [upd_ne ne]; exact hu)
  · by_cases z : b = a
    · subst z
      exact e.hof b _ upd_same
    · exact e.hof b u (by rw [upd_ne z]; exact hu)
  · by_cases z : b = a
    · subst z
      exact ⟨o, upd_same⟩
    · rw [upd_ne z]
      exact e.occ b u (by rw [upd_ne z]; exact hu)
  · have ne : b ≠ a := fun z => nf ob u (by rw [z, hH] at hu; exact Option.some.inj hu)
    rw [upd_ne ne]
    exact e.frz b ob u (by rw [upd_ne ne]; exact hu)
end
end DL

set_option maxHeartbeats 2000000
/-! Promises kept where no repr is under way, and their calls. -/
namespace DL
open PySem PySem.Spec PyProof.Rows L2
/-- a promise kept where no repr is under way -/
structure FnOkG (P : Program) (w : World) (K : PySem.W.Frag) (mg : Str → Option Value) (base : Heap) (CX : CXT) (k : Nat) (f : Addr) (fd : FuncData) (ps : List Str) (sp : Sp) : Prop where
  len : ∀ vs H Q E, sp vs H Q E → vs.length = ps.length
  run : ∀ (A : Around) (outer : List Env) (s : Shared) (H : Hp) (args : Args) (us : List Value) (vs : List V) (Q : VK) (E : XK), Room k A → A.guards = some [] → Env0 P w K mg base A outer s H → BindsTo s fd args (ps.zip us) → Vals vs us → sp vs H Q E →
    codeAny (model P w) A (.call (.ref f) args) (CR CX outer P w H s Q E) s
theorem fn_ofG {CX : CXT} {P : Program} {w : World} {K : PySem.W.Frag} {mg : Str → Option Value} {base : Heap} {k : Nat} {f : Addr} {name qual : Str} {params : Arguments} {body : List Stmt} {scope : Scope} {dV kV doc pm cdv ct oc : Value} {an od : Option Addr}
    {osl : Array (Option Value)} {N ps : List Str} {sp : Sp} (lk : K.lookup f = some ⟨oc, od, .func (PySem.W.fnOf name qual params body scope dV kV doc pm an cdv ct), osl⟩) (hcd : PySem.W.codeIn K cdv qual = true) (S : FnScope N ps scope)
    (len : ∀ vs H Q E, sp vs H Q E → vs.length = ps.length)
    (hbody : ∀ (A : Around) (outer : List Env) (s : Shared) (H : Hp) (vs : List V) (Q : VK) (E : XK), Room k (A.deeper (envOfC qual scope s.heap.objs.size f cdv)) → A.guards = some [] → sp vs H Q E →
      ∃ t, PSs (cxOf CX P w K mg base N qual scope f cdv A outer s H E) body t ∧ t { nx := fun _ H' => Q .non H', rt := Q } (L2.start N vs) H) :
    FnOkG P w K mg base CX (k + 1) f (PySem.W.fnOf name qual params body scope dV kV doc pm an cdv ct) ps sp := by
  refine ⟨len, fun A outer s H args us vs Q E hr hgd e0 hb r hsp => ?_⟩
  have hl := len _ _ _ _ hsp
  have KX : K.In s.heap := e0.mod.kin.keeps fun b o e => (e0.bs b o e).1
  have lim : s.heap.NoLimit := e0.mod.nolimit.keeps fun b o e => (e0.bs b o e).1
  have hkind : ∀ y ∈ ps.zip us, scope.names.lookup y.1 = some .local ∨ (scope.names.lookup y.1 = some .cell ∧ ((cellsFrom (s.heap.objs.size + 1) scope.names []).lookup y.1).isSome = true) := fun ⟨n, v⟩ hy => by
    rcases S.par n (List.of_mem_zip hy).1 with q | q
    · exact .inl q
    · exact .inr ⟨q, PySem.W.cellsFrom_some _ _ _ (.inl q)⟩
  refine codeAny_call_function hr.depth (KX _ _ lk) rfl S.co S.gen rfl (PySem.W.codeRec_of KX hcd) (hb _ _ _ _ ?_)
  refine wpAny_newFunctionEnv_cells S.kind hkind fun env he s1 x => ?_
  subst he
  refine ⟨lim.keeps x.toInCall.keep, codeAny_func ?_⟩
  obtain ⟨t, ht, hq⟩ := hbody A outer s H vs Q E (hr.deeper _) hgd hsp
  have I : Inv (cxOf CX P w K mg base N qual scope f cdv A outer s H E) [] (L2.start N vs) H s1 := inv_start S hr.hd e0 hl r x
  refine wpAny_mono (ht.run [] s1 (L2.start N vs) H _ I hq) (fun fl s' hs => ?_) fun e s' hs => hs
  have fin : ∀ {σ' : L2.St} {H' : Hp} {v : V} {u : Value}, Inv (cxOf CX P w K mg base N qual scope f cdv A outer s H E) [] σ' H' s' → RelV v u → Q v H' → CE outer P w H s Q u s' :=
    fun {σ' H' v u} J rv q => ⟨v, H', J.os, J.bare, J.base, J.hok, rv, q⟩
  cases fl with
  | ret u =>
    obtain ⟨v, σ', H', J, rv, q⟩ := hs
    exact fin J rv q
  | next =>
    obtain ⟨σ', H', J, q⟩ := hs
    exact fin (v := V.non) (u := Value.none) J rfl q
  | brk =>
    obtain ⟨_, _, _, q⟩ := hs
    exact False.elim q
  | cont =>
    obtain ⟨_, _, _, q⟩ := hs
    exact False.elim q

section
variable {P : Program} {w : World} {K : PySem.W.Frag} {mg : Str → Option Value} {base : Heap} {CX : CXT} {j k : Nat} {f : Addr} {fd : FuncData} {ps : List Str} {sp sp' : Sp}
theorem FnOkG.mono (F : FnOkG P w K mg base CX j f fd ps sp) (h : j ≤ k) : FnOkG P w K mg base CX k f fd ps sp := ⟨F.len, fun A outer s H args us vs Q E hr => F.run A outer s H args us vs Q E (hr.mono h)⟩
theorem FnOkG.imp (F : FnOkG P w K mg base CX k f fd ps sp) (h : ∀ vs H Q E, sp' vs H Q E → sp vs H Q E) : FnOkG P w K mg base CX k f fd ps sp' :=
  ⟨fun vs H Q E q => F.len vs H Q E (h _ _ _ _ q), fun A outer s H args us vs Q E hr hg he hb hv hs => F.run A outer s H args us vs Q E hr hg he hb hv (h _ _ _ _ hs)⟩
def FnRG (P : Program) (w : World) (K : PySem.W.Frag) (mg : Str → Option Value) (base : Heap) (CX : CXT) (k : Nat) (f : Addr) (sp : Sp) : Prop :=
  ∀ (A : Around) (outer : List Env) (s : Shared) (H : Hp) (us : List Value) (vs : List V) (Q : VK) (E : XK), Room k A → A.guards = some [] → Env0 P w K mg base A outer s H → Vals vs us → sp vs H Q E →
    codeAny (model P w) A (.call (.ref f) ⟨us, []⟩) (CR CX outer P w H s Q E) s
theorem FnRG.mono (F : FnRG P w K mg base CX j f sp) (h : j ≤ k) : FnRG P w K mg base CX k f sp := fun A outer s H us vs Q E hr => F A outer s H us vs Q E (hr.mono h)
end
section
variable {X : Cx} {CX : CXT} {k : Nat} {f C : Addr} {fd : FuncData} {ps : List Str} {sp : Sp} {dvs : List V} {ds : List Value} {E : XK} {Es : L2.St → XK} {x m : Str} {p pos apos : Pos} {e o : Expr} {es : List Expr} {ta : TE} {t : TA}
/-- the callee runs -/
theorem run_fnA {A : Around} (hA : A.frames = X.A.frames) (hgd : A.guards = some []) {pins : List (Addr × Obj)} {σ : L2.St} {H : Hp} {s : Shared} {Q : VK} {us : List Value} {vs : List V} (F : FnOkG X.prog X.w X.K X.mg X.base CX k f fd ps sp) (hr : Room k A) (hb : Binds X.K fd ps ds) (hd : Vals dvs ds) (hx : PassesAt CX X σ E)
    (I : Inv X pins σ H s) (r : Vals vs us) (h : sp (vs ++ dvs) H Q E) : wpAny (model X.prog X.w) A (call (.ref f) us) (EP X pins σ Q) X.xe s := by
  have r2 : Vals (vs ++ dvs) (us ++ ds) := r.append hd
  have hl : (us ++ ds).length = ps.length := by rw [← r2.length]; exact F.len _ _ _ _ h
  have e0 : Env0 X.prog X.w X.K X.mg X.base A X.stack s H := by
    have e := I.env0
    exact ⟨by rw [hA]; exact e.frames, e.mod, e.bs, e.bsz, e.funs, e.frf, e.hok, e.bare⟩
  refine wpAny_call (codeAny_mono (F.run A X.stack s H ⟨us, []⟩ (us ++ ds) (vs ++ dvs) Q E hr hgd e0 (hb s us I.kIn hl) r2 h) fun r s' hq => ?_)
  cases r with
  | error e => exact hx pins H s e s' I hq
  | ok fl =>
    cases fl with
    | ret u => exact I.after hq
    | next => exact False.elim hq
    | brk => exact False.elim hq
    | cont => exact False.elim hq
theorem run_fnG (hgd : X.A.guards = some []) {pins : List (Addr × Obj)} {σ : L2.St} {H : Hp} {s : Shared} {Q : VK} {us : List Value} {vs : List V} (F : FnOkG X.prog X.w X.K X.mg X.base CX k f fd ps sp) (hr : Room k X.A) (hb : Binds X.K fd ps ds) (hd : Vals dvs ds) (hx : PassesAt CX X σ E)
    (I : Inv X pins σ H s) (r : Vals vs us) (h : sp (vs ++ dvs) H Q E) : wpAny (model X.prog X.w) X.A (call (.ref f) us) (EP X pins σ Q) X.xe s := run_fnA rfl hgd F hr hb hd hx I r h
theorem pe_callG (hgd : X.A.guards = some []) (F : FnOkG X.prog X.w X.K X.mg X.base CX k f fd ps sp) (hr : Room k X.A) (hg : Gl X x) (hm : X.mg x = some (.ref f)) (hk : PySem.W.keepIn X.K (.ref f) = true) (hb : Binds X.K fd ps ds) (hd : Vals dvs ds) (hx : ∀ σ, PassesAt CX X σ (Es σ))
    (ha : PA X (e :: es) t) (hdb : (x == ("__debug__" : Str)) = false := by decide) (he : starEach (e :: es) X.env = (false, eval e X.env) :: starEach es X.env := by rfl) (hpl : (backTo pos (starEach es X.env)).any (·.1) = false := by rfl) :
    PE X (.Call (.Name x p) (e :: es) [] pos) (tCallSD sp dvs Es t) := by
  refine ⟨fun pins s σ H Q I h => ?_⟩
  refine wpAny_Call_Name_kw (ld_glob I hg hm ?_ hdb)
  refine PySem.W.callWith_K (h₀ := X.base) I.ok.mod.kin hk (thn (ha.run pos pins s σ H _ I h) fun us s1 ⟨vs, H1, I1, r, q⟩ => ⟨I1.kIn, ?_⟩) he hpl
  exact run_fnG hgd F hr hb hd (hx σ) I1 r q
theorem pe_call0G (hgd : X.A.guards = some []) (F : FnOkG X.prog X.w X.K X.mg X.base CX k f fd ps sp) (hr : Room k X.A) (hg : Gl X x) (hm : X.mg x = some (.ref f)) (hk : PySem.W.keepIn X.K (.ref f) = true) (hb : Binds X.K fd ps ds) (hd : Vals dvs ds) (hx : Passes CX X E)
    (hdb : (x == ("__debug__" : Str)) = false := by decide) : PE X (.Call (.Name x p) [] [] pos) (tCall sp dvs E tNil) := by
  refine ⟨fun pins s σ H Q I h => ?_⟩
  refine wpAny_Call_Name_kw (ld_glob I hg hm ?_ hdb)
  exact PySem.W.callWith_K0 I.kIn hk (run_fnG (us := []) hgd F hr hb hd (fun pins H s e s' => hx pins σ H s e s') I .nil h)
theorem pe_methG (hgd : X.A.guards = some []) {pl : Sem Bool} (he : PE X o ta) (c : Cls X.K C) (hm : Meth X.K C m f) (F : FnOkG X.prog X.w X.K X.mg X.base CX k f fd ps sp) (hr : Room k X.A) (hb : Binds X.K fd ps ds) (hd : Vals dvs ds) (hx : Passes CX X E) (ha : PA X (e :: es) t)
    (hst : starEach (e :: es) X.env = (false, eval e X.env) :: starEach es X.env := by rfl) (hpl : (backTo pos (starEach es X.env)).any (·.1) = false := by rfl)
    (ht : eval (.Call (.Attribute o m apos) (e :: es) [] pos) X.env = (do
      let ov ← eval o X.env
      standAt apos.atName
      let (f, first) ← holding [ov] (getMethod ov m pl)
      callWith pos f first (backTo pos (starEach (e :: es) X.env)) (backToKw pos (keywordEach [] X.env))) := by rfl) :
    PE X (.Call (.Attribute o m apos) (e :: es) [] pos) (tMeth C m sp dvs E ta t) := by
  refine ⟨fun pins s σ H Q I h => ?_⟩
  refine PySem.W.methodCall_KW (pl := pl) (thn (he.run pins s σ H _ I h) fun u s1 ⟨x, H1, I1, rx, a, dx, fs, ex, ea, l, q⟩ => ?_) ht
  subst ex
  obtain rfl : u = Value.ref a := rx
  refine getmeth_ok I1 ea c hm l ?_
  refine PySem.W.callWith_K (first := [.ref a]) (h₀ := X.base) I.ok.mod.kin hm.kp (thn (ha.run pos pins s1 σ H1 _ I1 q) fun us s2 ⟨vs, H2, I2, r, q2⟩ => ⟨I2.kIn, ?_⟩) hst hpl
  exact run_fnG (us := .ref a :: us) (vs := .ref a :: vs) hgd F hr hb hd (fun pins H s e s' => hx pins σ H s e s') I2 (.cons rfl r) q2
theorem pe_meth0G (hgd : X.A.guards = some []) {pl : Sem Bool} (he : PE X o ta) (c : Cls X.K C) (hm : Meth X.K C m f) (F : FnOkG X.prog X.w X.K X.mg X.base CX k f fd ps sp) (hr : Room k X.A) (hb : Binds X.K fd ps ds) (hd : Vals dvs ds) (hx : Passes CX X E)
    (ht : eval (.Call (.Attribute o m apos) [] [] pos) X.env = (do
      let ov ← eval o X.env
      standAt apos.atName
      let (f, first) ← holding [ov] (getMethod ov m pl)
      callWith pos f first (backTo pos (starEach [] X.env)) (backToKw pos (keywordEach [] X.env))) := by rfl) :
    PE X (.Call (.Attribute o m apos) [] [] pos) (tMeth C m sp dvs E ta tNil) := by
  refine ⟨fun pins s σ H Q I h => ?_⟩
  refine PySem.W.methodCall_KW (pl := pl) (thn (he.run pins s σ H _ I h) fun u s1 ⟨x, H1, I1, rx, a, dx, fs, ex, ea, l, q⟩ => ?_) ht
  subst ex
  obtain rfl : u = Value.ref a := rx
  refine getmeth_ok I1 ea c hm l ?_
  exact PySem.W.callWith_K0 (first := [.ref a]) I1.kIn hm.kp (run_fnG (us := [.ref a]) (vs := [.ref a]) hgd F hr hb hd (fun pins H s e s' => hx pins σ H s e s') I1 (.cons rfl .nil) q)
theorem run_makeRG (hgd : X.A.guards = some []) {pins : List (Addr × Obj)} {σ : L2.St} {H : Hp} {s : Shared} {Q : VK} {us : List Value} {vs : List V} (M : Mk X.K C f) (F : FnRG X.prog X.w X.K X.mg X.base CX k f sp) (hr : Room (k + 1) X.A) (hx : Passes CX X E) (I : Inv X pins σ H s) (r : Vals vs us)
    (h : ∀ x dx, H x = Option.none → H dx = Option.none → dx ≠ x → sp (V.ref x :: vs) (upd (upd H dx (.own x)) x (.ins C dx [])) (fun v H2 => v = .non ∧ Q (.ref x) H2) E) :
    wpAny (model X.prog X.w) X.A (call (.ref C) us) (EP X pins σ Q) X.xe s := by
  have hq := h (s.heap.objs.size + 1) s.heap.objs.size (I.hok.fresh (Nat.le_succ _)) (I.hok.fresh (Nat.le_refl _)) (Nat.ne_of_lt (Nat.lt_succ_self _))
  have I2 := Inv.made (C := C) I
  have r2 : Vals (V.ref (s.heap.objs.size + 1) :: vs) (Value.ref (s.heap.objs.size + 1) :: us) := .cons rfl r
  refine wpAny_call (make_map (f := f) I.kIn M.makes M.init (beq_iff_eq.mp M.fn) (codeAny_mono (F _ X.stack _ _ (Value.ref (s.heap.objs.size + 1) :: us) _ _ E (hr.make C us []) hgd (I2.env0.make C us []) r2 hq) fun r s' hq' => ?_))
  cases r with
  | error e => exact hx pins σ _ _ e s' I2 hq'
  | ok fl =>
    cases fl with
    | ret u =>
      obtain ⟨v, H', I3, rv, ev, q3⟩ := I2.after hq'
      subst ev
      exact ⟨rv, ⟨V.ref (s.heap.objs.size + 1), H', I3, rfl, q3⟩⟩
    | next => exact False.elim hq'
    | brk => exact False.elim hq'
    | cont => exact False.elim hq'
theorem run_makeG (hgd : X.A.guards = some []) {pins : List (Addr × Obj)} {σ : L2.St} {H : Hp} {s : Shared} {Q : VK} {us : List Value} {vs : List V} (M : Mk X.K C f) (F : FnOkG X.prog X.w X.K X.mg X.base CX k f fd ps sp) (hr : Room (k + 1) X.A) (hb : Binds X.K fd ps ds) (hd : Vals dvs ds)
    (hx : Passes CX X E) (I : Inv X pins σ H s) (r : Vals vs us)
    (h : ∀ x dx, H x = none → H dx = none → dx ≠ x → sp (.ref x :: (vs ++ dvs)) (upd (upd H dx (.own x)) x (.ins C dx [])) (fun v H2 => v = .non ∧ Q (.ref x) H2) E) :
    wpAny (model X.prog X.w) X.A (call (.ref C) us) (EP X pins σ Q) X.xe s := by
  have hq := h (s.heap.objs.size + 1) s.heap.objs.size (I.hok.fresh (Nat.le_succ _)) (I.hok.fresh (Nat.le_refl _)) (Nat.ne_of_lt (Nat.lt_succ_self _))
  have I2 := Inv.made (C := C) I
  have r2 : Vals (V.ref (s.heap.objs.size + 1) :: (vs ++ dvs)) (Value.ref (s.heap.objs.size + 1) :: (us ++ ds)) := .cons rfl (r.append hd)
  have hl : (Value.ref (s.heap.objs.size + 1) :: us ++ ds).length = ps.length := by
    have e := r2.length
    rw [F.len _ _ _ _ hq] at e
    exact e.symm
  refine wpAny_call (make_map (f := f) I.kIn M.makes M.init (beq_iff_eq.mp M.fn) (codeAny_mono (F.run _ X.stack _ _ ⟨Value.ref (s.heap.objs.size + 1) :: us, []⟩ (Value.ref (s.heap.objs.size + 1) :: (us ++ ds)) _ _ E (hr.make C us []) hgd
    (I2.env0.make C us []) (hb _ (Value.ref (s.heap.objs.size + 1) :: us) I2.kIn hl) r2 hq) fun r s' hq' => ?_))
  cases r with
  | error e => exact hx pins σ _ _ e s' I2 hq'
  | ok fl =>
    cases fl with
    | ret u =>
      obtain ⟨v, H', I3, rv, ev, q3⟩ := I2.after hq'
      subst ev
      exact ⟨rv, ⟨V.ref (s.heap.objs.size + 1), H', I3, rfl, q3⟩⟩
    | next => exact False.elim hq'
    | brk => exact False.elim hq'
    | cont => exact False.elim hq'
theorem pe_makeG (hgd : X.A.guards = some []) (M : Mk X.K C f) (F : FnOkG X.prog X.w X.K X.mg X.base CX k f fd ps sp) (hr : Room (k + 1) X.A) (hg : Gl X x) (hm : X.mg x = some (.ref C)) (hb : Binds X.K fd ps ds) (hd : Vals dvs ds) (hx : Passes CX X E)
    (ha : PA X (e :: es) t) (hdb : (x == ("__debug__" : Str)) = false := by decide) (he : starEach (e :: es) X.env = (false, eval e X.env) :: starEach es X.env := by rfl) (hpl : (backTo pos (starEach es X.env)).any (·.1) = false := by rfl) :
    PE X (.Call (.Name x p) (e :: es) [] pos) (tMake C sp dvs E t) := by
  refine ⟨fun pins s σ H Q I h => ?_⟩
  refine wpAny_Call_Name_kw (ld_glob I hg hm ?_ hdb)
  refine PySem.W.callWith_K (h₀ := X.base) I.ok.mod.kin M.kp (thn (ha.run pos pins s σ H _ I h) fun us s1 ⟨vs, H1, I1, r, q⟩ => ⟨I1.kIn, ?_⟩) he hpl
  exact run_makeG hgd M F hr hb hd hx I1 r q
end
section
variable {X : Cx} {CX : CXT} {k : Nat} {C p g a dx : Addr} {fs : List (Str × V)} {f : Str} {fd : FuncData} {ps : List Str} {sp : Sp} {dvs : List V} {ds : List Value} {E : XK} {e : Expr} {pos : Pos} {ta : TE}
theorem getprop_okG (hgd : X.A.guards = some []) {pins : List (Addr × Obj)} {σ : L2.St} {H : Hp} {s : Shared} {Q : VK} {b : Bool} {E' : Value → Shared → Prop} (I : Inv X pins σ H s) (ea : H a = some (.ins C dx fs)) (c : Cls X.K C) (hp : PropOf X.K C f p g)
    (F : FnOkG X.prog X.w X.K X.mg X.base CX k g fd ps sp) (hr : Room (k + 1) X.A) (hb : Binds X.K fd ps ds) (hd : Vals dvs ds) (hx : Passes CX X.nox E) (h : sp (.ref a :: dvs) H Q E) :
    wpAny (model X.prog X.w) X.A (getAttr (.ref a) f b) (EP X pins σ Q) E' s := by
  obtain ⟨mA, O, _, _, _, _⟩ := ins_get I.hok ea
  obtain ⟨od, J, _⟩ := O.look
  obtain ⟨rest, hrec⟩ := hp.rec_
  have I1 := I.tok (s.toks + 1)
  have hl : ([Value.ref a] ++ ds).length = ps.length := by
    rw [← F.len _ _ _ _ h]
    show ds.length + 1 = dvs.length + 1
    rw [hd.length]
  have hc : (PySem.W.clsIn X.K C).isSome = true := by
    obtain ⟨cd, hc, _⟩ := PySem.W.any_some c.hd
    rw [hc]
    rfl
  refine PySem.W.get_bind I.kIn J (PySem.W.plainGet_of (c.get f)).1 (PySem.W.findObj_data hc hp.at_ hp.get hp.tak) (PySem.W.plainGet_of (c.get f)).2 (wpAny_call (PySem.W.prop_get (s := { s with toks := s.toks + 1 }) I.kIn hrec ?_))
  refine codeAny_mono (F.run X.A.in1 X.stack { s with toks := s.toks + 1 } H ⟨[.ref a], []⟩ (.ref a :: ds) (.ref a :: dvs) Q E hr.in1 hgd I1.env0.in1 (hb _ [.ref a] I1.kIn hl) (.cons rfl hd) h) fun r s' hq => ?_
  cases r with
  | error er => exact False.elim (hx pins σ H { s with toks := s.toks + 1 } er s' (I1.wish _) hq)
  | ok fl =>
    cases fl with
    | ret u =>
      obtain ⟨v, H', I3, rv, q3⟩ := I1.after hq
      show wpAny _ _ (handedOut u) _ _ _
      rw [PySem.W.handedOut_of (handed_of rv)]
      exact wpAny_pure ⟨v, H', I3, rv, q3⟩
    | next => exact False.elim hq
    | brk => exact False.elim hq
    | cont => exact False.elim hq
theorem pe_propG (hgd : X.A.guards = some []) (he : PE X e ta) (c : Cls X.K C) (hp : PropOf X.K C f p g) (F : FnOkG X.prog X.w X.K X.mg X.base CX k g fd ps sp) (hr : Room (k + 1) X.A) (hb : Binds X.K fd ps ds) (hd : Vals dvs ds) (hx : Passes CX X.nox E)
    (hab : attributeBase e f X.env (eval e X.env) = eval e X.env) : PE X (.Attribute e f pos) (tProp C sp dvs E ta) := by
  refine ⟨fun pins s σ H Q I h => ?_⟩
  refine attr_of hab (thn (he.run pins s σ H _ I h) fun u s1 ⟨x, H1, I1, rx, a, dx, fs, ex, ea, q⟩ => ?_)
  subst ex
  obtain rfl : u = Value.ref a := rx
  exact getprop_okG hgd I1 ea c hp F hr hb hd hx q
end
/-! ### a def with a rest -/
section
variable {CX : CXT} {P : Program} {w : World} {K : PySem.W.Frag} {mg : Str → Option Value} {base : Heap} {k : Nat} {f : Addr} {name qual : Str} {params : Arguments} {body : List Stmt} {scope : Scope} {dV kV doc pm cdv ct oc : Value} {an od : Option Addr}
  {osl : Array (Option Value)} {N ps : List Str} {sp : Sp}
theorem fn_starG {pv : Str} (lk : K.lookup f = some ⟨oc, od, .func (PySem.W.fnOf name qual params body scope dV kV doc pm an cdv ct), osl⟩) (hcd : PySem.W.codeIn K cdv qual = true) (S : FnScope N (ps ++ [pv]) scope) (hCX : StX.CXUp CX)
    (hb : ∀ us rest : List Value, us.length = ps.length → bindArgs (PySem.W.fnOf name qual params body scope dV kV doc pm an cdv ct) ⟨us ++ rest, []⟩ = (newTuple rest >>= fun t => pure (ps.zip us ++ [(pv, t)])))
    (hbody : ∀ (A : Around) (outer : List Env) (s : Shared) (H : Hp) (vs : List V) (Q : VK) (E : XK), Room k (A.deeper (envOfC qual scope s.heap.objs.size f cdv)) → A.guards = some [] → sp vs H Q E →
      ∃ t, PSs (cxOf CX P w K mg base N qual scope f cdv A outer s H E) body t ∧ t { nx := fun _ H' => Q .non H', rt := Q } (L2.start N vs) H) :
    FnRG P w K mg base CX (k + 1) f (fun vs H Q E => ∃ ws rest, vs = ws ++ rest ∧ ws.length = ps.length ∧ rest.length ≤ sizeLine ∧ ∀ p, H p = Option.none → sp (ws ++ [V.ref p]) (upd H p (.tup rest)) Q E) := by
  intro A outer s H us vs Q E hr hgd e0 r hsp
  obtain ⟨ws, rest, ev, hl, hz, hq⟩ := hsp
  subst ev
  obtain ⟨u1, u2, eu, r1, r2⟩ := StX.vals_split r
  subst eu
  have hn : H s.heap.objs.size = Option.none := e0.hok.fresh (Nat.le_refl _)
  have hl1 : u1.length = ps.length := by rw [← r1.length]; exact hl
  have hl2 : u2.length ≤ sizeLine := by rw [← r2.length]; exact hz
  refine StX.run_bnd lk hcd S hr e0 (G := fun xs H2 => ∃ p, H p = Option.none ∧ xs = ws ++ [V.ref p] ∧ H2 = upd H p (.tup rest)) (fun A' Ex Q' h => ?_) fun s2 H2 xs ⟨p, hp, ex, eH⟩ hr' => ?_
  · rw [hb u1 u2 hl1]
    refine wpAny_bind (wpAny_newTuple (wpAny_pure ?_) hl2)
    have new : ObjOk P w (upd H s.heap.objs.size (.tup rest)) (s.heap.push ({ cls := .type "tuple", data := .seq u2.toArray } : Obj)) s.heap.objs.size (.tup rest) := ⟨hz, u2, r2, ⟨_, Heap.get?_push_size _ rfl, rfl, _, rfl⟩⟩
    have un := StX.un_laid (fs := frs outer) (s := s) (o := ({ cls := .type "tuple", data := .seq u2.toArray } : Obj)) (u := .tup rest) hn
    have z := h _ _ (ws ++ [V.ref s.heap.objs.size]) (u1 ++ [Value.ref s.heap.objs.size]) (StX.env0_laid e0 new) un rfl (fun e s' => hCX outer s H _ _ E e s' un (fun b o q => Heap.get?_push_of_some _ q) rfl) (r1.append (.cons rfl .nil))
      (by rw [List.length_append, List.length_append, hl] <;> rfl) ⟨_, hn, rfl, rfl⟩
    rw [List.zip_append hl1.symm] at z
    exact z
  · subst ex eH
    exact hbody A outer s2 _ _ Q E hr' hgd (hq p hp)
end
end DL

set_option maxHeartbeats 1000000
/-! The judgements: what the real run does is what a plain function computes. -/
namespace DL
open PySem PySem.Spec PyProof.Rows L2

/-! ### what holds behind -/
structure EnvR (g : G) (rho : Rho) (H : Hp) (de : Env') (sg : St) : Prop where
  len : de.length = sg.length
  at_ : ∀ (i : Nat) (d : D), de[i]? = some (some d) → ∃ v, sg[i]? = some (some v) ∧ Rp g rho H d v
theorem EnvR.ext {g : G} {rho rho' : Rho} {H H' : Hp} {de : Env'} {sg : St} (E : EnvR g rho H de sg) (e : Ext rho H rho' H') : EnvR g rho' H' de sg :=
  ⟨E.len, fun i d h => let ⟨v, h1, h2⟩ := E.at_ i d h; ⟨v, h1, Rp.ext e d v h2⟩⟩
theorem EnvR.set {g : G} {rho : Rho} {H : Hp} {de : Env'} {sg : St} (E : EnvR g rho H de sg) {i : Nat} {d : D} {v : V} (r : Rp g rho H d v) : EnvR g rho H (de.set i (some d)) (sg.set i (some v)) :=
  ⟨by rw [List.length_set, List.length_set]; exact E.len, fun j x hj => by
    by_cases q : j = i
    · subst q
      have hl : j < de.length := by
        have := (List.getElem?_eq_some_iff.mp hj).1
        rw [List.length_set] at this
        exact this
      rw [List.getElem?_set_self hl] at hj
      have y : d = x := by simpa using hj
      subst y
      exact ⟨v, List.getElem?_set_self (by rw [← E.len]; exact hl), r⟩
    · rw [List.getElem?_set_ne (fun z => q z.symm)] at hj
      obtain ⟨u, h1, h2⟩ := E.at_ j x hj
      exact ⟨u, by rw [List.getElem?_set_ne (fun z => q z.symm)]; exact h1, h2⟩⟩
/-- slots forgotten -/
def kill (de : Env') : List Nat → Env'
  | [] => de
  | i :: is => (kill de is).set i none
theorem kill_length (de : Env') : ∀ is : List Nat, (kill de is).length = de.length
  | [] => rfl
  | i :: is => by unfold kill; rw [List.length_set, kill_length de is]
theorem EnvR.kill {g : G} {rho : Rho} {H : Hp} {de : Env'} {sg : St} (E : EnvR g rho H de sg) : ∀ is : List Nat, EnvR g rho H (DL.kill de is) sg
  | [] => E
  | i :: is => by
    have K := EnvR.kill E is
    refine ⟨by unfold DL.kill; rw [List.length_set]; exact K.len, fun j x hj => ?_⟩
    unfold DL.kill at hj
    by_cases q : j = i
    · subst q
      rw [List.getElem?_set] at hj
      simp at hj
    · rw [List.getElem?_set_ne (fun z => q z.symm)] at hj
      exact K.at_ j x hj
theorem EnvR.wipe {g : G} {rho : Rho} {H : Hp} {de : Env'} {sg : St} (E : EnvR g rho H de sg) : ∀ is : List Nat, EnvR g rho H (DL.kill de is) (L2.wipe sg is)
  | [] => E
  | i :: is => by
    have K := EnvR.wipe E is
    refine ⟨by unfold DL.kill L2.wipe; rw [List.length_set, List.length_set]; exact K.len, fun j x hj => ?_⟩
    unfold DL.kill at hj
    by_cases q : j = i
    · subst q
      rw [List.getElem?_set] at hj
      simp at hj
    · rw [List.getElem?_set_ne (fun z => q z.symm)] at hj
      unfold L2.wipe
      rw [List.getElem?_set_ne (fun z => q z.symm)]
      exact K.at_ j x hj

/-- an exception is borne -/
def RX (g : G) (rho : Rho) (H : Hp) (x : XD) (c : Value) (d : Option Addr) : Prop := c = .ref (g.ca x.c) ∧
  (x.fs = [] ∨ ∃ dd fvs, d = some dd ∧ H dd = some (.xd fvs) ∧ rho.Off dd ∧ RpF g rho H x.fs fvs)
def Aft {α β : Type} (g : G) (rho : Rho) (H : Hp) (R : Rho → Hp → α → β → Prop) (W : XK) (r : Rs α) (Q : β → Hp → Prop) : Prop := match r with
  | .ok a h' => ∀ (rho' : Rho) (H' : Hp) (b : β), Sim g rho' h' H' → Ext rho H rho' H' → R rho' H' a b → Q b H'
  | .ex x h' => ∀ (rho' : Rho) (H' : Hp) (c : Value) (d : Option Addr), Sim g rho' h' H' → Ext rho H rho' H' → RX g rho' H' x c d → W c d H'
  | .no => False
theorem Aft.mono {α β : Type} {g : G} {rho : Rho} {H : Hp} {R : Rho → Hp → α → β → Prop} {W : XK} {r : Rs α} {Q Q' : β → Hp → Prop} (A : Aft g rho H R W r Q) (k : ∀ b H', Q b H' → Q' b H') : Aft g rho H R W r Q' := by
  cases r with
  | ok a h' => exact fun rho' H' b S e r => k _ _ (A rho' H' b S e r)
  | ex x h' => exact A
  | no => exact A
theorem Aft.later {α β : Type} {g : G} {rho rho1 : Rho} {H H1 : Hp} {R : Rho → Hp → α → β → Prop} {W : XK} {r : Rs α} {Q : β → Hp → Prop} (A : Aft g rho H R W r Q) (e : Ext rho H rho1 H1) : Aft g rho1 H1 R W r Q := by
  cases r with
  | ok a h' => exact fun rho' H' b S e' r => A rho' H' b S (e.trans e') r
  | ex x h' => exact fun rho' H' c d S e' r => A rho' H' c d S (e.trans e') r
  | no => exact A
theorem Aft.bd {α β α' β' : Type} {g : G} {rho : Rho} {H : Hp} {R : Rho → Hp → α → β → Prop} {R' : Rho → Hp → α' → β' → Prop} {W : XK} {r : Rs α'} {k : α' → Hh → Rs α} {Q : β → Hp → Prop} {Q' : β' → Hp → Prop}
    (A : Aft g rho H R W (r.bd k) Q) (n : ∀ rho1 H1 a b h1, Sim g rho1 h1 H1 → Ext rho H rho1 H1 → R' rho1 H1 a b → Aft g rho1 H1 R W (k a h1) Q → Q' b H1) : Aft g rho H R' W r Q' := by
  cases r with
  | ok a h' => exact fun rho' H' b S e r => n rho' H' a b h' S e r (A.later e)
  | ex x h' => exact A
  | no => exact A

section
variable (g : G) (W : WX)
def RB : Rho → Hp → Bool → Bool → Prop := fun _ _ a b => a = b
def okE (f : Env' → Hh → Rs D) : TE := fun sg H Q => ∃ rho de h, Sim g rho h H ∧ EnvR g rho H de sg ∧ Aft g rho H (Rp g) (fun c d H' => W c d sg H') (f de h) Q
def okL (f : Env' → Hh → Rs (List D)) : TA := fun sg H Q => ∃ rho de h, Sim g rho h H ∧ EnvR g rho H de sg ∧ Aft g rho H (RpL g) (fun c d H' => W c d sg H') (f de h) Q
def okT (f : Env' → Hh → Rs Bool) : TT := fun sg H Q => ∃ rho de h, Sim g rho h H ∧ EnvR g rho H de sg ∧ Aft g rho H RB (fun c d H' => W c d sg H') (f de h) Q
/-- what a statement comes to -/
inductive Sr where
  | nx (de : Env') (h : Hh) | rt (d : D) (h : Hh) | bk (de : Env') (h : Hh) | ct (de : Env') (h : Hh) | ex (x : XD) (de : Env') (h : Hh) | no
def AftS (rho : Rho) (H : Hp) (Ds : Ends) (r : Sr) : Prop := match r with
  | .nx de h => ∀ (rho' : Rho) (H' : Hp) (sg' : St), Sim g rho' h H' → Ext rho H rho' H' → EnvR g rho' H' de sg' → Ds.nx sg' H'
  | .rt d h => ∀ (rho' : Rho) (H' : Hp) (v : V), Sim g rho' h H' → Ext rho H rho' H' → Rp g rho' H' d v → Ds.rt v H'
  | .bk de h => ∀ (rho' : Rho) (H' : Hp) (sg' : St), Sim g rho' h H' → Ext rho H rho' H' → EnvR g rho' H' de sg' → Ds.bk sg' H'
  | .ct de h => ∀ (rho' : Rho) (H' : Hp) (sg' : St), Sim g rho' h H' → Ext rho H rho' H' → EnvR g rho' H' de sg' → Ds.ct sg' H'
  | .ex x de h => ∀ (rho' : Rho) (H' : Hp) (sg' : St) (c : Value) (d : Option Addr), Sim g rho' h H' → Ext rho H rho' H' → EnvR g rho' H' de sg' → RX g rho' H' x c d → W c d sg' H'
  | .no => False
def okS (f : Env' → Hh → Sr) : TS := fun Ds sg H => ∃ rho de h, Sim g rho h H ∧ EnvR g rho H de sg ∧ AftS g W rho H Ds (f de h)
end
section
variable {g : G} {W : WX} {rho : Rho} {H : Hp} {h : Hh} {de : Env'} {sg : St}
/-- the first part runs, then the rest -/
theorem okE.bd {α β : Type} {f : Env' → Hh → Rs D} {R : Rho → Hp → α → β → Prop} {k : D → Hh → Rs α} {Q : β → Hp → Prop} {Q' : VK} (S : Sim g rho h H) (E : EnvR g rho H de sg) (A : Aft g rho H R (fun c d H' => W c d sg H') ((f de h).bd k) Q)
    (n : ∀ rho1 H1 d v h1, Sim g rho1 h1 H1 → Ext rho H rho1 H1 → EnvR g rho1 H1 de sg → Rp g rho1 H1 d v → Aft g rho1 H1 R (fun c d H' => W c d sg H') (k d h1) Q → Q' v H1) : okE g W f sg H Q' :=
  ⟨rho, de, h, S, E, A.bd fun rho1 H1 a b h1 S1 e1 r1 A1 => n rho1 H1 a b h1 S1 e1 (E.ext e1) r1 A1⟩
theorem okL.bd {α β : Type} {f : Env' → Hh → Rs (List D)} {R : Rho → Hp → α → β → Prop} {k : List D → Hh → Rs α} {Q : β → Hp → Prop} {Q' : List V → Hp → Prop} (S : Sim g rho h H) (E : EnvR g rho H de sg) (A : Aft g rho H R (fun c d H' => W c d sg H') ((f de h).bd k) Q)
    (n : ∀ rho1 H1 d v h1, Sim g rho1 h1 H1 → Ext rho H rho1 H1 → EnvR g rho1 H1 de sg → RpL g rho1 H1 d v → Aft g rho1 H1 R (fun c d H' => W c d sg H') (k d h1) Q → Q' v H1) : okL g W f sg H Q' :=
  ⟨rho, de, h, S, E, A.bd fun rho1 H1 a b h1 S1 e1 r1 A1 => n rho1 H1 a b h1 S1 e1 (E.ext e1) r1 A1⟩
theorem okT.bd {α β : Type} {f : Env' → Hh → Rs Bool} {R : Rho → Hp → α → β → Prop} {k : Bool → Hh → Rs α} {Q : β → Hp → Prop} {Q' : Bool → Hp → Prop} (S : Sim g rho h H) (E : EnvR g rho H de sg) (A : Aft g rho H R (fun c d H' => W c d sg H') ((f de h).bd k) Q)
    (n : ∀ rho1 H1 b h1, Sim g rho1 h1 H1 → Ext rho H rho1 H1 → EnvR g rho1 H1 de sg → Aft g rho1 H1 R (fun c d H' => W c d sg H') (k b h1) Q → Q' b H1) : okT g W f sg H Q' :=
  ⟨rho, de, h, S, E, A.bd fun rho1 H1 a b h1 S1 e1 r1 A1 => by
    have r2 : a = b := r1
    subst r2
    exact n rho1 H1 a h1 S1 e1 (E.ext e1) A1⟩
end
/-! ### the judgements -/
/-- what every place of a body has -/
structure Cok (g : G) (X : Cx) (W : WX) : Prop where
  K : g.K = X.K
  calm : X.calm = true
  room : Room 0 X.A
  tk : Takes X W
  bl : ∀ x : Str, bnames.contains x = true → X.mg x = none
  nd : X.N.Nodup
  po : PassesOwn (model X.prog X.w) X.A X.env X.xe
  wu : ∀ (c : Value) (d : Option Addr) (sg sg' : St) (H : Hp), W c d sg H → W c d sg' H
  gd : X.A.guards = some []
section
variable (g : G) (X : Cx) (W : WX)
structure DE (e : Expr) (f : Env' → Hh → Rs D) : Prop where
  pe : Cok g X W → PE X e (okE g W f)
structure DA (es : List Expr) (f : Env' → Hh → Rs (List D)) : Prop where
  pa : Cok g X W → PA X es (okL g W f)
structure DT (e : Expr) (f : Env' → Hh → Rs Bool) : Prop where
  pt : Cok g X W → PT X e (okT g W f)
structure DS (st : Stmt) (f : Env' → Hh → Sr) : Prop where
  ps : Cok g X W → PS X st (okS g W f)
structure DSs (st : List Stmt) (f : Env' → Hh → Sr) : Prop where
  pss : Cok g X W → PSs X st (okS g W f)
end
section
variable {X : Cx} {e : Expr}
theorem PE.imp {t t' : TE} (p : PE X e t) (k : ∀ sg H Q, t' sg H Q → t sg H Q) : PE X e t' := ⟨fun pins s sg H Q I h => p.run pins s sg H Q I (k sg H Q h)⟩
theorem PT.imp {t t' : TT} (p : PT X e t) (k : ∀ sg H Q, t' sg H Q → t sg H Q) : PT X e t' := ⟨fun pins s sg H Q I h => p.run pins s sg H Q I (k sg H Q h)⟩
theorem PA.imp {es : List Expr} {t t' : TA} (p : PA X es t) (k : ∀ sg H Q, t' sg H Q → t sg H Q) : PA X es t' := ⟨fun pos pins s sg H Q I h => p.run pos pins s sg H Q I (k sg H Q h)⟩
theorem PS.imp {st : Stmt} {t t' : TS} (p : PS X st t) (k : ∀ Ds sg H, t' Ds sg H → t Ds sg H) : PS X st t' := ⟨fun pins s sg H Ds I h => p.run pins s sg H Ds I (k Ds sg H h)⟩
theorem PSs.imp {st : List Stmt} {t t' : TS} (p : PSs X st t) (k : ∀ Ds sg H, t' Ds sg H → t Ds sg H) : PSs X st t' := ⟨fun pins s sg H Ds I h => p.run pins s sg H Ds I (k Ds sg H h)⟩
end
end DL

set_option maxHeartbeats 1000000
/-! Expressions: names, constants, operators, comparisons, tests. -/
namespace DL
open PySem PySem.Spec PyProof.Rows L2
section
variable {g : G} {X : Cx} {W : WX} {e a b c : Expr} {es : List Expr} {f fa fb fc : Env' → Hh → Rs D} {pos : Pos}
/-! ### names, constants -/
def dV (i : Nat) : Env' → Hh → Rs D := fun de h => match de[i]? with
  | some (some d) => .ok d h
  | _ => .no
def dC (d : D) : Env' → Hh → Rs D := fun _ h => .ok d h
theorem de_v (i : Nat) {x : Str} (hN : X.N[i]? = some x := by rfl) (hv : Vis X.env.scope x := by first | exact Or.inl rfl | exact Or.inr (Or.inl rfl) | exact Or.inr (Or.inr rfl)) (hd : (x == ("__debug__" : Str)) = false := by decide)
    (hcd : (x == ("__classdict__" : Str)) = false := by decide) : DE g X W (.Name x pos) (dV i) := ⟨fun _ => PE.imp (pe_var hN hv hd hcd) fun sg H Q ⟨rho, de, h, S, E, A⟩ => by
  unfold dV at A
  cases q : de[i]? with
  | none => rw [q] at A; exact False.elim A
  | some o =>
    rw [q] at A
    cases o with
    | none => exact False.elim A
    | some d =>
      obtain ⟨v, h1, h2⟩ := E.at_ i d q
      exact ⟨v, h1, A rho H v S (Ext.refl _ _) h2⟩⟩
/-- an expression of a plain value -/
theorem de_c {v : V} {d : D} (p : PE X e (tC v)) (r : ∀ rho H, Rp g rho H d v) : DE g X W e (dC d) := ⟨fun _ => PE.imp p fun sg H Q ⟨rho, de, h, S, E, A⟩ => A rho H v S (Ext.refl _ _) (r rho H)⟩
theorem de_int {i : Int} {j : Nat} : DE g X W (.Constant (.int i) j pos) (dC (.int i)) := de_c pe_int fun _ _ => by unfold Rp; rfl
theorem de_bl {i : Bool} {j : Nat} : DE g X W (.Constant (.bool i) j pos) (dC (.bl i)) := de_c pe_bl fun _ _ => by unfold Rp; rfl
theorem de_non {j : Nat} : DE g X W (.Constant .none j pos) (dC .non) := de_c pe_non fun _ _ => by unfold Rp; rfl
theorem de_str {x : Str} {j : Nat} : DE g X W (.Constant (.str x) j pos) (dC (.str x)) := de_c pe_str fun _ _ => by unfold Rp; rfl
/-- a constant of the module: an int, a text -/
theorem de_gint {x : Str} {i : Int} (hm : ∃ t, X.mg x = some (.int i t)) (hg : Gl X x := by rfl) (hd : (x == ("__debug__" : Str)) = false := by decide) : DE g X W (.Name x pos) (dC (.int i)) := by
  obtain ⟨t, hm⟩ := hm
  exact de_c (v := .int i) (pe_glob hg hm ⟨t, rfl⟩ hd) fun _ _ => by unfold Rp; rfl
theorem de_gstr {x : Str} {i : Str} (hm : ∃ t, X.mg x = some (.str i t)) (hg : Gl X x := by rfl) (hd : (x == ("__debug__" : Str)) = false := by decide) : DE g X W (.Name x pos) (dC (.str i)) := by
  obtain ⟨t, hm⟩ := hm
  exact de_c (v := .str i) (pe_glob hg hm ⟨t, rfl⟩ hd) fun _ _ => by unfold Rp; rfl
/-- a class of the text -/
theorem de_gcls {x : Str} {k : Nat} (hm : X.mg x = some (.ref (g.ca k))) (hg : Gl X x := by rfl) (hd : (x == ("__debug__" : Str)) = false := by decide) : DE g X W (.Name x pos) (dC (.cls k)) :=
  de_c (v := .ref (g.ca k)) (pe_glob hg hm rfl hd) fun _ _ => by unfold Rp; rfl
/-- a built-in type -/
theorem de_ty {x : Str} {n : String} (hb : bnames.contains x = true) (hv : bootBuiltins x = some (.type n)) (hg : Gl X x := by rfl) (hn : x ≠ "__name__" := by decide) (hd : (x == ("__debug__" : Str)) = false := by decide) : DE g X W (.Name x pos) (dC (.ty n)) :=
  ⟨fun cx => (de_c (g := g) (W := W) (v := .ty n) (pe_bltn hg (cx.bl x hb) hv rfl hn hd) fun _ _ => by unfold Rp; rfl).pe cx⟩

/-! ### what is new -/
section
variable {rho : Rho} {H : Hp} {h : Hh}
theorem new_lst (S : Sim g rho h H) {p : Addr} {xs : List D} {vs : List V} (n : H p = none) (r : RpL g rho H xs vs) :
    Sim g rho h (upd H p (.lst vs)) ∧ Ext rho H rho (upd H p (.lst vs)) ∧ Rp g rho (upd H p (.lst vs)) (.lst xs) (.ref p) := by
  refine ⟨S.fresh n, Ext.fresh n, ?_⟩
  unfold Rp
  exact ⟨p, vs, rfl, ⟨upd_same, S.off n⟩, r.ext (Ext.fresh n)⟩
theorem new_tup (S : Sim g rho h H) {p : Addr} {xs : List D} {vs : List V} (n : H p = none) (r : RpL g rho H xs vs) :
    Sim g rho h (upd H p (.tup vs)) ∧ Ext rho H rho (upd H p (.tup vs)) ∧ Rp g rho (upd H p (.tup vs)) (.tup xs) (.ref p) := by
  refine ⟨S.fresh n, Ext.fresh n, ?_⟩
  unfold Rp
  exact ⟨p, vs, rfl, ⟨upd_same, S.off n⟩, r.ext (Ext.fresh n)⟩
/-- a list of the abstract heap -/
theorem new_ref (S : Sim g rho h H) {p : Addr} {xs : List D} {vs : List V} (n : H p = none) (r : RpL g rho H xs vs) :
    Sim g (rho.add p) (h ++ [.lst xs]) (upd H p (.lst vs)) ∧ Ext rho H (rho.add p) (upd H p (.lst vs)) ∧ Rp g (rho.add p) (upd H p (.lst vs)) (.ref h.length) (.ref p) := by
  have gt : (rho.add p).l[h.length]? = some (some p) := by rw [← S.len]; unfold Rho.add; simp
  refine ⟨S.new n ⟨p, vs, gt, upd_same, r.ext (Ext.new n)⟩ (fun _ z => nomatch z), Ext.new n, ?_⟩
  unfold Rp
  refine ⟨by unfold Rho.add; rw [List.length_append, S.len]; simp, fun a q => ?_⟩
  rw [gt] at q
  cases q
  rfl
end
/-- a list that may be read: frozen, or an object of the abstract heap -/
def lstOf (h : Hh) : D → Option (List D)
  | .lst xs => some xs
  | .ref i => match h[i]? with
    | some (.lst xs) => some xs
    | _ => none
  | _ => none
/-- a list or a tuple -/
def seqOf (h : Hh) : D → Option (List D)
  | .tup xs => some xs
  | d => lstOf h d
theorem lst_ok {rho : Rho} {H : Hp} {h : Hh} (S : Sim g rho h H) {d : D} {v : V} {xs : List D} (r : Rp g rho H d v) (e : lstOf h d = some xs) : ∃ a vs, v = .ref a ∧ H a = some (.lst vs) ∧ RpL g rho H xs vs := by
  cases d with
  | lst ys =>
    have e2 : ys = xs := by simpa [lstOf] using e
    subst e2
    unfold Rp at r
    obtain ⟨a, vs, rfl, t, l⟩ := r
    exact ⟨a, vs, rfl, t.1, l⟩
  | ref i =>
    unfold Rp at r
    cases q : h[i]? with
    | none => simp [lstOf, q] at e
    | some o =>
      cases o with
      | lst ys =>
        have e2 : ys = xs := by simpa [lstOf, q] using e
        subst e2
        obtain ⟨a, vs, h1, h2, h3⟩ := S.obj i _ q
        exact ⟨a, vs, r.2 a h1, h2, h3⟩
      | _ => simp [lstOf, q] at e
  | _ => simp [lstOf] at e
theorem seq_ok {rho : Rho} {H : Hp} {h : Hh} (S : Sim g rho h H) {d : D} {v : V} {xs : List D} (r : Rp g rho H d v) (e : seqOf h d = some xs) : ∃ a vs, v = .ref a ∧ (H a = some (.lst vs) ∨ H a = some (.tup vs)) ∧ RpL g rho H xs vs := by
  cases d with
  | tup ys =>
    have e2 : ys = xs := by simpa [seqOf] using e
    subst e2
    unfold Rp at r
    obtain ⟨a, vs, rfl, t, l⟩ := r
    exact ⟨a, vs, rfl, .inr t.1, l⟩
  | _ =>
    obtain ⟨a, vs, e1, e2, e3⟩ := lst_ok S r e
    exact ⟨a, vs, e1, .inl e2, e3⟩

/-! ### operators -/
/-- what a value's giving asks -/
def Giv (g : G) (rho : Rho) (H : Hp) (h : Hh) (d : D) (Q : VK) : Prop := ∀ (rho' : Rho) (H' : Hp) (v : V), Sim g rho' h H' → Ext rho H rho' H' → Rp g rho' H' d v → Q v H'
def ofO {α : Type} (o : Option α) (h : Hh) : Rs α := match o with
  | some d => .ok d h
  | none => .no
theorem ofO_some {α : Type} (d : α) (h : Hh) : ofO (some d) h = .ok d h := rfl
theorem ofO_none {α : Type} (h : Hh) : ofO (none : Option α) h = .no := rfl
theorem Aft.ofO {g : G} {rho : Rho} {H : Hp} {W : XK} {o : Option D} {h : Hh} {Q : VK} (A : Aft g rho H (Rp g) W (DL.ofO o h) Q) : ∃ d, o = some d ∧ Giv g rho H h d Q := by
  cases o with
  | none => exact False.elim A
  | some d => exact ⟨d, rfl, A⟩
/-- two values, an operator of the machine, its plain function -/
def OpD (g : G) (X : Cx) (op : Value → Value → Sem Value) (F : D → D → Hh → Option D) : Prop :=
  OpR X op fun x y H Q => ∃ rho h d1 d2 d, Sim g rho h H ∧ Rp g rho H d1 x ∧ Rp g rho H d2 y ∧ F d1 d2 h = some d ∧ Giv g rho H h d Q
def dOp (F : D → D → Hh → Option D) (fa fb : Env' → Hh → Rs D) : Env' → Hh → Rs D := fun de h => (fa de h).bd fun x h1 => (fb de h1).bd fun y h2 => ofO (F x y h2) h2
theorem de_op {op : Operator} {F : D → D → Hh → Option D} (o : Cok g X W → OpD g X (binaryOp op) F) (ha : DE g X W a fa) (hb : DE g X W b fb) : DE g X W (.BinOp a op b pos) (dOp F fa fb) := ⟨fun cx => by
  refine PE.imp (pe_op (o cx) (ha.pe cx) (hb.pe cx)) fun sg H Q ⟨rho, de, h, S, E, A⟩ => ?_
  refine okE.bd S E A fun rho1 H1 x v1 h1 S1 e1 E1 r1 A1 => ?_
  refine okE.bd S1 E1 A1 fun rho2 H2 y v2 h2 S2 e2 E2 r2 A2 => ?_
  obtain ⟨d, q, v⟩ := A2.ofO
  exact ⟨rho2, h2, x, y, d, S2, Rp.ext e2 _ _ r1, r2, q, v⟩⟩
/-- comparisons of two values -/
theorem de_cmp {op : CmpOp} {F : D → D → Hh → Option D} (o : Cok g X W → OpD g X (compareOp op) F) (ha : DE g X W a fa) (hb : DE g X W b fb) (hm : behindInMarks op b = false := by first | exact nomark _ | rfl) :
    DE g X W (.Compare a [op] [b] pos) (dOp F fa fb) := ⟨fun cx => by
  refine PE.imp (pe_cmpR (o cx) (ha.pe cx) (hb.pe cx) hm) fun sg H Q ⟨rho, de, h, S, E, A⟩ => ?_
  refine okE.bd S E A fun rho1 H1 x v1 h1 S1 e1 E1 r1 A1 => ?_
  refine okE.bd S1 E1 A1 fun rho2 H2 y v2 h2 S2 e2 E2 r2 A2 => ?_
  obtain ⟨d, q, v⟩ := A2.ofO
  exact ⟨rho2, h2, x, y, d, S2, Rp.ext e2 _ _ r1, r2, q, v⟩⟩
/-- a value that is a bool, as a test -/
def blOf : D → Option Bool
  | .bl b => some b
  | _ => none
def dBl (f : Env' → Hh → Rs D) : Env' → Hh → Rs Bool := fun de h => (f de h).bd fun d h1 => ofO (blOf d) h1
theorem bd_bd {α β γ : Type} (r : Rs α) (k : α → Hh → Rs β) (l : β → Hh → Rs γ) : (r.bd k).bd l = r.bd fun a h => (k a h).bd l := by
  cases r <;> rfl
theorem Aft.ofT {g : G} {rho : Rho} {H : Hp} {W : XK} {o : Option Bool} {h : Hh} {Q : Bool → Hp → Prop} (A : Aft g rho H RB W (DL.ofO o h) Q) : ∃ b, o = some b ∧ ∀ (rho' : Rho) (H' : Hp), Sim g rho' h H' → Ext rho H rho' H' → Q b H' := by
  cases o with
  | none => exact False.elim A
  | some b => exact ⟨b, rfl, fun rho' H' S e => A rho' H' b S e rfl⟩
theorem blOf_ok {d : D} {b : Bool} {rho : Rho} {H : Hp} {v : V} (e : blOf d = some b) (r : Rp g rho H d v) : v = .bl b := by
  cases d with
  | bl c =>
    have e2 : c = b := by simpa [blOf] using e
    subst e2
    unfold Rp at r
    exact r
  | _ => simp [blOf] at e
theorem dt_cmp {op : CmpOp} {F : D → D → Hh → Option D} (o : Cok g X W → OpD g X (compareOp op) F) (ha : DE g X W a fa) (hb : DE g X W b fb) (hm : behindInMarks op b = false := by first | exact nomark _ | rfl) :
    DT g X W (.Compare a [op] [b] pos) (dBl (dOp F fa fb)) := ⟨fun cx => by
  refine PT.imp (pt_cmpR (o cx) (ha.pe cx) (hb.pe cx) hm) fun sg H Q ⟨rho, de, h, S, E, A⟩ => ?_
  unfold dBl dOp at A
  simp only [bd_bd] at A
  refine okE.bd S E A fun rho1 H1 x v1 h1 S1 e1 E1 r1 A1 => ?_
  refine okE.bd S1 E1 A1 fun rho2 H2 y v2 h2 S2 e2 E2 r2 A2 => ?_
  cases q : F x y h2 with
  | none => rw [q] at A2; exact False.elim A2
  | some d =>
    rw [q] at A2
    obtain ⟨b, q2, k⟩ := Aft.ofT A2
    exact ⟨rho2, h2, x, y, d, S2, Rp.ext e2 _ _ r1, r2, q, fun rho' H' v S' e' r' => ⟨b, blOf_ok q2 r', k rho' H' S' e'⟩⟩⟩
/-- any value that is a bool, as a test -/
theorem dt_val (he : DE g X W e f) (hs : ∀ whole, isTrue e X.env whole = (do let v ← whole; standAt e.pos; holding [v] (truthy v)) := by intro _; rfl) : DT g X W e (dBl f) := ⟨fun cx => by
  refine PT.imp (pt_val (he.pe cx) hs) fun sg H Q ⟨rho, de, h, S, E, A⟩ => ?_
  refine okE.bd S E A fun rho1 H1 x v1 h1 S1 e1 E1 r1 A1 => ?_
  obtain ⟨b, q2, k⟩ := Aft.ofT A1
  exact ⟨b, blOf_ok q2 r1, k rho1 H1 S1 (Ext.refl _ _)⟩⟩

/-! #### the operators by values -/
section
variable {pins : List (Addr × Obj)} {s : Shared} {sg : St} {H : Hp} {rho : Rho} {h : Hh}
theorem Inv.rdl (I : Inv X pins sg H s) {p : Addr} {xs : List V} (r : Rd H p (.lst xs)) : xs.length ≤ sizeLine ∧ ∃ (its : List Value) (n : Nat), Vals xs its ∧ xs.length = its.length ∧ s.heap.get? p = some { cls := .type "list", data := .seq its.toArray n } := by
  obtain ⟨z, its, n, r, e⟩ := r.ok I.hok
  exact ⟨z, its, n, r, r.length, e⟩
theorem op_catL : OpR X (binaryOp .Add) fun x y H Q => ∃ l b xs zs, x = .ref l ∧ y = .ref b ∧ Rd H l (.lst xs) ∧ Rd H b (.lst zs) ∧ xs.length + zs.length ≤ sizeLine ∧ ∀ p, H p = none → Q (.ref p) (upd H p (.lst (xs ++ zs))) := by
  intro pins s σ H x y v u Q I rx ry h
  obtain ⟨l, b, xs, zs, rfl, rfl, hH, hB, hz, q⟩ := h
  cases rx
  cases ry
  obtain ⟨z, its, n, r, hl, e⟩ := Inv.rdl I hH
  obtain ⟨z2, its2, n2, r2, hl2, e2⟩ := Inv.rdl I hB
  refine PySem.P.add_list e e2 ?_ (by rw [List.size_toArray, List.size_toArray]; omega)
  have ea : its.toArray ++ its2.toArray = (its ++ its2).toArray := by simp
  rw [ea]
  exact ⟨.ref _, _, I.lnew (t' := s.toks) (r.append r2) (by rw [List.length_append]; omega), rfl, q _ I.fresh⟩
end
/-- lists and texts have a longest length -/
def lim (n : Nat) : Bool := Nat.ble n 16777216
theorem lim_le {n : Nat} (h : lim n = true) : n ≤ sizeLine := by rw [sizeLine_eq]; exact Nat.le_of_ble_eq_true h
theorem lim_of {n : Nat} (h : n ≤ 16777216) : lim n = true := Nat.ble_eq_true_of_le h
theorem Rp.int' {rho : Rho} {H : Hp} {i : Int} : Rp g rho H (.int i) (.int i) := by unfold Rp; rfl
theorem Rp.bl' {rho : Rho} {H : Hp} {i : Bool} : Rp g rho H (.bl i) (.bl i) := by unfold Rp; rfl
theorem Rp.str' {rho : Rho} {H : Hp} {i : Str} : Rp g rho H (.str i) (.str i) := by unfold Rp; rfl
theorem Rp.non' {rho : Rho} {H : Hp} : Rp g rho H .non .non := by unfold Rp; rfl
theorem Rp.int_ {rho : Rho} {H : Hp} {i : Int} {v : V} (r : Rp g rho H (.int i) v) : v = .int i := by unfold Rp at r; exact r
theorem Rp.bl_ {rho : Rho} {H : Hp} {i : Bool} {v : V} (r : Rp g rho H (.bl i) v) : v = .bl i := by unfold Rp at r; exact r
theorem Rp.str_ {rho : Rho} {H : Hp} {i : Str} {v : V} (r : Rp g rho H (.str i) v) : v = .str i := by unfold Rp at r; exact r
theorem Rp.non_ {rho : Rho} {H : Hp} {v : V} (r : Rp g rho H .non v) : v = .non := by unfold Rp at r; exact r
theorem Rp.tup_ {rho : Rho} {H : Hp} {xs : List D} {v : V} (r : Rp g rho H (.tup xs) v) : ∃ a vs, v = .ref a ∧ TupAt rho H a vs ∧ RpL g rho H xs vs := by unfold Rp at r; exact r
theorem Rp.ty_ {rho : Rho} {H : Hp} {n : String} {v : V} (r : Rp g rho H (.ty n) v) : v = .ty n := by unfold Rp at r; exact r
theorem Rp.cls_ {rho : Rho} {H : Hp} {c : Nat} {v : V} (r : Rp g rho H (.cls c) v) : v = .ref (g.ca c) := by unfold Rp at r; exact r
def oAdd (x y : D) (h : Hh) : Option D := match x, y with
  | .int i, .int j => some (.int (i + j))
  | .str i, .str j => if lim (i.length + j.length) then some (.str (i ++ j)) else none
  | .tup xs, .tup ys => if lim (xs.length + ys.length) then some (.tup (xs ++ ys)) else none
  | x, y => match lstOf h x, lstOf h y with
    | some xs, some ys => if lim (xs.length + ys.length) then some (.lst (xs ++ ys)) else none
    | _, _ => none
theorem oAdd_ok : OpD g X (binaryOp .Add) oAdd := by
  intro pins s sg H x y v u Q I rx ry hh
  obtain ⟨rho, h, d1, d2, d, S, r1, r2, eq, A⟩ := hh
  unfold oAdd at eq
  split at eq
  · cases eq
    have q1 := r1.int_
    have q2 := r2.int_
    subst q1 q2
    exact op_add pins s sg H _ _ v u Q I rx ry ⟨_, _, rfl, rfl, A rho H _ S (Ext.refl _ _) Rp.int'⟩
  · split at eq
    · rename_i hz
      cases eq
      have q1 := r1.str_
      have q2 := r2.str_
      subst q1 q2
      exact op_add_str pins s sg H _ _ v u Q I rx ry ⟨_, _, rfl, rfl, lim_le hz, A rho H _ S (Ext.refl _ _) Rp.str'⟩
    · cases eq
  · split at eq
    · rename_i xs ys hz
      cases eq
      obtain ⟨a, vs, rfl, t1, l1⟩ := r1.tup_
      obtain ⟨b, ws, rfl, t2, l2⟩ := r2.tup_
      refine op_catA pins s sg H _ _ v u Q I rx ry ⟨a, b, vs, ws, rfl, rfl, .inl (.inl t1.1), .inl (.inl t2.1), by rw [← l1.length, ← l2.length]; exact lim_le hz, fun e => ?_, fun _ e => ?_, fun _ _ p hp => ?_⟩
      · subst e
        have e2 : xs = [] := List.length_eq_zero_iff.mp (by rw [l1.length]; rfl)
        subst e2
        exact A rho H _ S (Ext.refl _ _) r2
      · subst e
        have e2 : ys = [] := List.length_eq_zero_iff.mp (by rw [l2.length]; rfl)
        subst e2
        rw [List.append_nil] at A
        exact A rho H _ S (Ext.refl _ _) r1
      · obtain ⟨s1, s2, s3⟩ := new_tup S hp (l1.app l2)
        exact A rho _ _ s1 s2 s3
    · cases eq
  · split at eq
    · rename_i xs ys e1 e2
      split at eq
      · rename_i hz
        cases eq
        obtain ⟨a, vs, rfl, t1, l1⟩ := lst_ok S r1 e1
        obtain ⟨b, ws, rfl, t2, l2⟩ := lst_ok S r2 e2
        refine op_catL pins s sg H _ _ v u Q I rx ry ⟨a, b, vs, ws, rfl, rfl, .inl t1, .inl t2, by rw [← l1.length, ← l2.length]; exact lim_le hz, fun p hp => ?_⟩
        obtain ⟨s1, s2, s3⟩ := new_lst S hp (l1.app l2)
        exact A rho _ _ s1 s2 s3
      · cases eq
    · cases eq
/-- ints by a rule of the layer -/
theorem opI_ok {op : Value → Value → Sem Value} {C : Int → Int → Prop} {k : Int → Int → Int} {F : D → D → Hh → Option D} (o : OpR X op (rI C fun i j => .int (k i j)))
    (hF : ∀ d1 d2 h d, F d1 d2 h = some d → ∃ i j, d1 = .int i ∧ d2 = .int j ∧ C i j ∧ d = .int (k i j)) : OpD g X op F := by
  intro pins s sg H x y v u Q I rx ry hh
  obtain ⟨rho, h, d1, d2, d, S, r1, r2, eq, A⟩ := hh
  obtain ⟨i, j, rfl, rfl, hc, rfl⟩ := hF _ _ _ _ eq
  have q1 := r1.int_
  have q2 := r2.int_
  subst q1 q2
  exact o pins s sg H _ _ v u Q I rx ry ⟨i, j, rfl, rfl, hc, A rho H _ S (Ext.refl _ _) Rp.int'⟩
def oSub (x y : D) (_ : Hh) : Option D := match x, y with
  | .int i, .int j => some (.int (i - j))
  | _, _ => none
theorem oSub_ok : OpD g X (binaryOp .Sub) oSub := opI_ok (C := fun _ _ => True) (k := fun i j => i - j) (fun pins s sg H x y v u Q I rx ry h => op_sub pins s sg H x y v u Q I rx ry (let ⟨i, j, a, b, _, q⟩ := h; ⟨i, j, a, b, q⟩)) fun d1 d2 h d e => by
  unfold oSub at e
  split at e
  · cases e; exact ⟨_, _, rfl, rfl, trivial, rfl⟩
  · cases e
/-- a size that products and divisors keep below -/
def small (i : Int) : Bool := decide (i.natAbs.log2 < 4096)
theorem small_of {i : Int} (h : i.natAbs < 2 ^ 4096) : small i = true := decide_eq_true (PySem.Flt.log2_lt_of (by decide) h)
def oMod (x y : D) (_ : Hh) : Option D := match x, y with
  | .int i, .int j => if 0 < j then some (.int (i % j)) else none
  | _, _ => none
theorem oMod_ok : OpD g X (binaryOp .Mod) oMod := opI_ok op_mod fun d1 d2 h d e => by
  unfold oMod at e
  split at e
  · split at e
    · rename_i hj
      cases e; exact ⟨_, _, rfl, rfl, hj, rfl⟩
    · cases e
  · cases e
def oDiv (x y : D) (_ : Hh) : Option D := match x, y with
  | .int i, .int j => if 0 < j then (if small j then some (.int (i / j)) else none) else none
  | _, _ => none
theorem oDiv_ok : OpD g X (binaryOp .FloorDiv) oDiv := opI_ok op_fdivW fun d1 d2 h d e => by
  unfold oDiv at e
  split at e
  · split at e
    · rename_i hj
      split at e
      · rename_i hs
        cases e
        have z : _ < 4096 := of_decide_eq_true hs
        exact ⟨_, _, rfl, rfl, ⟨hj, by omega⟩, rfl⟩
      · cases e
    · cases e
  · cases e
def oPow (x y : D) (_ : Hh) : Option D := match x, y with
  | .int i, .int j => if 0 ≤ j ∧ j ≤ 1000000 ∧ i.natAbs < 2 ^ 64 then some (.int (i ^ j.toNat)) else none
  | _, _ => none
theorem oPow_ok : OpD g X (binaryOp .Pow) oPow := opI_ok op_pow fun d1 d2 h d e => by
  unfold oPow at e
  split at e
  · split at e
    · rename_i hj
      cases e; exact ⟨_, _, rfl, rfl, hj, rfl⟩
    · cases e
  · cases e
def oMul (x y : D) (_ : Hh) : Option D := match x, y with
  | .int i, .int j => if small i && small j then some (.int (i * j)) else none
  | _, _ => none
theorem oMul_ok : OpD g X (binaryOp .Mult) oMul := opI_ok op_mulW fun d1 d2 h d e => by
  unfold oMul at e
  split at e
  · split at e
    · rename_i hj
      cases e
      obtain ⟨h1, h2⟩ := Bool.and_eq_true_iff.mp hj
      have z1 : _ < 4096 := of_decide_eq_true h1
      have z2 : _ < 4096 := of_decide_eq_true h2
      refine ⟨_, _, rfl, rfl, ?_, rfl⟩
      unfold CMulW
      omega
    · cases e
  · cases e
theorem de_neg (ha : DE g X W a fa) : DE g X W (.UnaryOp .USub a pos) (fun de h => (fa de h).bd fun d h1 => ofO (match d with
    | .int i => some (D.int (-i))
    | _ => none) h1) := ⟨fun cx => by
  refine PE.imp (pe_un un_neg (ha.pe cx)) fun sg H Q ⟨rho, de, h, S, E, A⟩ => ?_
  refine okE.bd S E A fun rho1 H1 x v1 h1 S1 e1 E1 r1 A1 => ?_
  obtain ⟨d, q, v⟩ := A1.ofO
  cases x with
  | int i =>
    cases q
    exact ⟨i, r1.int_, v rho1 H1 _ S1 (Ext.refl _ _) Rp.int'⟩
  | _ => cases q⟩
/-! #### order -/
def ltS (x y : Str) : Bool := decide (x.cps.toList < y.cps.toList)
def oLt (x y : D) (_ : Hh) : Option D := match x, y with
  | .int i, .int j => some (.bl (decide (i < j)))
  | .str i, .str j => some (.bl (ltS i j))
  | _, _ => none
def oLe (x y : D) (_ : Hh) : Option D := match x, y with
  | .int i, .int j => some (.bl (decide (i ≤ j)))
  | .str i, .str j => some (.bl (!ltS j i))
  | _, _ => none
def oGt (x y : D) (_ : Hh) : Option D := match x, y with
  | .int i, .int j => some (.bl (decide (j < i)))
  | .str i, .str j => some (.bl (ltS j i))
  | _, _ => none
def oGe (x y : D) (_ : Hh) : Option D := match x, y with
  | .int i, .int j => some (.bl (decide (j ≤ i)))
  | .str i, .str j => some (.bl (!ltS i j))
  | _, _ => none
theorem opO_ok {op : Value → Value → Sem Value} {k : Int → Int → Bool} {l : Str → Str → Bool} {F : D → D → Hh → Option D} (o : OpR X op (rI0 fun i j => .bl (k i j))) (o' : OpR X op fun x y H Q => ∃ i j, x = .str i ∧ y = .str j ∧ Q (.bl (l i j)) H)
    (hF : ∀ d1 d2 h d, F d1 d2 h = some d → (∃ i j, d1 = .int i ∧ d2 = .int j ∧ d = .bl (k i j)) ∨ ∃ i j, d1 = .str i ∧ d2 = .str j ∧ d = .bl (l i j)) : OpD g X op F := by
  intro pins s sg H x y v u Q I rx ry hh
  obtain ⟨rho, h, d1, d2, d, S, r1, r2, eq, A⟩ := hh
  rcases hF _ _ _ _ eq with ⟨i, j, rfl, rfl, rfl⟩ | ⟨i, j, rfl, rfl, rfl⟩
  · have q1 := r1.int_
    have q2 := r2.int_
    subst q1 q2
    exact o pins s sg H _ _ v u Q I rx ry ⟨i, j, rfl, rfl, A rho H _ S (Ext.refl _ _) Rp.bl'⟩
  · have q1 := r1.str_
    have q2 := r2.str_
    subst q1 q2
    exact o' pins s sg H _ _ v u Q I rx ry ⟨i, j, rfl, rfl, A rho H _ S (Ext.refl _ _) Rp.bl'⟩
theorem oLt_ok : OpD g X (compareOp .Lt) oLt := opO_ok op_lt op_lt_str fun d1 d2 h d e => by
  unfold oLt at e
  split at e <;> cases e
  · exact .inl ⟨_, _, rfl, rfl, rfl⟩
  · exact .inr ⟨_, _, rfl, rfl, rfl⟩
theorem oLe_ok : OpD g X (compareOp .LtE) oLe := opO_ok op_le op_le_str fun d1 d2 h d e => by
  unfold oLe at e
  split at e <;> cases e
  · exact .inl ⟨_, _, rfl, rfl, rfl⟩
  · exact .inr ⟨_, _, rfl, rfl, rfl⟩
theorem oGt_ok : OpD g X (compareOp .Gt) oGt := opO_ok op_gt op_gt_str fun d1 d2 h d e => by
  unfold oGt at e
  split at e <;> cases e
  · exact .inl ⟨_, _, rfl, rfl, rfl⟩
  · exact .inr ⟨_, _, rfl, rfl, rfl⟩
theorem oGe_ok : OpD g X (compareOp .GtE) oGe := opO_ok op_ge op_ge_str fun d1 d2 h d e => by
  unfold oGe at e
  split at e <;> cases e
  · exact .inl ⟨_, _, rfl, rfl, rfl⟩
  · exact .inr ⟨_, _, rfl, rfl, rfl⟩
/-! #### is None -/
def noneD (h : Hh) : D → Option Bool
  | .non => some true
  | .ref i => match h[i]? with
    | none => none
    | some .dead => none
    | some _ => some false
  | _ => some false
theorem live_ref {rho : Rho} {H : Hp} {h : Hh} (S : Sim g rho h H) {i : Nat} {o : AO} (e : h[i]? = some o) (n : o ≠ .dead) : ∃ a, rho.l[i]? = some (some a) := by
  have r := S.obj i o e
  cases o with
  | dead => exact absurd rfl n
  | lst xs => obtain ⟨a, _, h1, _⟩ := r; exact ⟨a, h1⟩
  | dct _ xs => obtain ⟨a, _, _, h1, _⟩ := r; exact ⟨a, h1⟩
  | lock _ xs => obtain ⟨a, _, _, _, h1, _⟩ := r; exact ⟨a, h1⟩
  | ins c fs => obtain ⟨a, _, _, h1, _⟩ := r; exact ⟨a, h1⟩
theorem noneD_ok {rho : Rho} {H : Hp} {h : Hh} (S : Sim g rho h H) {d : D} {v : V} {b : Bool} (r : Rp g rho H d v) (e : noneD h d = some b) : decide (v = .non) = b := by
  cases d with
  | non =>
    have q := r.non_
    subst q
    cases e
    rfl
  | ref i =>
    unfold noneD at e
    cases q : h[i]? with
    | none => simp [q] at e
    | some o =>
      have nd : o ≠ .dead := by
        intro z
        subst z
        simp [q] at e
      obtain ⟨a, ha⟩ := live_ref S q nd
      unfold Rp at r
      have e2 : b = false := by
        cases o <;> simp [q] at e <;> first | exact e.symm | exact absurd rfl nd | exact e
      rw [r.2 a ha, e2]
      rfl
  | bl c => have q := r.bl_; subst q; cases e; rfl
  | int c => have q := r.int_; subst q; cases e; rfl
  | str c => have q := r.str_; subst q; cases e; rfl
  | ty c => have q := r.ty_; subst q; cases e; rfl
  | cls c => have q := r.cls_; subst q; cases e; rfl
  | tup xs => obtain ⟨a, vs, rfl, _⟩ := r.tup_; cases e; rfl
  | lst xs => unfold Rp at r; obtain ⟨a, vs, rfl, _⟩ := r; cases e; rfl
  | dct _ ks xs => unfold Rp at r; obtain ⟨a, vs, rfl, _⟩ := r; cases e; rfl
  | scr ns => unfold Rp at r; obtain ⟨a, rfl, _⟩ := r; cases e; rfl
def oIsN (x y : D) (h : Hh) : Option D := match y with
  | .non => (noneD h x).map D.bl
  | _ => none
def oNotN (x y : D) (h : Hh) : Option D := match y with
  | .non => (noneD h x).map fun b => D.bl (!b)
  | _ => none
theorem oIsN_ok : OpD g X (compareOp .Is) oIsN := by
  intro pins s sg H x y v u Q I rx ry hh
  obtain ⟨rho, h, d1, d2, d, S, r1, r2, eq, A⟩ := hh
  unfold oIsN at eq
  split at eq
  · cases q : noneD h d1 with
    | none => rw [q] at eq; cases eq
    | some b =>
      rw [q] at eq
      cases eq
      exact op_isN pins s sg H x y v u Q I rx ry ⟨r2.non_, by rw [noneD_ok S r1 q]; exact A rho H _ S (Ext.refl _ _) Rp.bl'⟩
  · cases eq
theorem oNotN_ok : OpD g X (compareOp .IsNot) oNotN := by
  intro pins s sg H x y v u Q I rx ry hh
  obtain ⟨rho, h, d1, d2, d, S, r1, r2, eq, A⟩ := hh
  unfold oNotN at eq
  split at eq
  · cases q : noneD h d1 with
    | none => rw [q] at eq; cases eq
    | some b =>
      rw [q] at eq
      cases eq
      exact op_notN pins s sg H x y v u Q I rx ry ⟨r2.non_, by rw [noneD_ok S r1 q]; exact A rho H _ S (Ext.refl _ _) Rp.bl'⟩
  · cases eq
/-! #### data: ==, in -/
def dpL (k : D → Option PyData) : List D → Option (List PyData)
  | [] => some []
  | x :: xs => match k x, dpL k xs with
    | some p, some ps => some (p :: ps)
    | _, _ => none
/-- the data of a value, so deep at most -/
def dp (h : Hh) : Nat → D → Option PyData
  | _, .non => some .none
  | _, .bl b => some (.bool b)
  | _, .int i => some (.int i)
  | _, .str x => some (.str x)
  | 0, _ => none
  | n + 1, .tup xs => match dpL (dp h n) xs with
    | some ps => some (.tuple ps)
    | none => none
  | n + 1, d => match lstOf h d with
    | some xs => (match dpL (dp h n) xs with
      | some ps => some (.list ps)
      | none => none)
    | none => none
theorem dpL_some {k : D → Option PyData} : ∀ {xs : List D} {ps : List PyData}, dpL k xs = some ps → (xs = [] ∧ ps = []) ∨ ∃ x r p q, xs = x :: r ∧ ps = p :: q ∧ k x = some p ∧ dpL k r = some q
  | [], ps, e => by
    cases e
    exact .inl ⟨rfl, rfl⟩
  | x :: xs, ps, e => by
    unfold dpL at e
    cases e1 : k x with
    | none => rw [e1] at e; cases e
    | some p =>
      cases e2 : dpL k xs with
      | none => rw [e1, e2] at e; cases e
      | some q =>
        rw [e1, e2] at e
        cases e
        exact .inr ⟨x, xs, p, q, rfl, rfl, e1, e2⟩
theorem dpL_dp {rho : Rho} {H : Hp} {K : PySem.W.Frag} {k : D → Option PyData} (ih : ∀ d v p, Rp g rho H d v → k d = some p → Dp K H v p) : ∀ (xs : List D) (vs : List V) (ps : List PyData), RpL g rho H xs vs → dpL k xs = some ps → DpAll K H vs ps
  | [], vs, ps, r, e => by
    have q := r.inv0
    subst q
    cases e
    exact .nil
  | x :: xs, vs, ps, r, e => by
    obtain ⟨v, w, rfl, r1, r2⟩ := r.inv
    rcases dpL_some e with ⟨z, _⟩ | ⟨x', r', p, q, z1, rfl, k1, k2⟩
    · cases z
    · cases z1
      exact .cons (ih _ _ _ r1 k1) (dpL_dp ih xs w q r2 k2)
theorem dpL_depth {k : D → Option PyData} {n : Nat} (ih : ∀ d p, k d = some p → p.depth ≤ n) : ∀ (xs : List D) (ps : List PyData), dpL k xs = some ps → PyData.depthAll ps ≤ n
  | [], ps, e => by
    cases e
    exact Nat.zero_le _
  | x :: xs, ps, e => by
    rcases dpL_some e with ⟨z, _⟩ | ⟨x', r', p, q, z1, rfl, k1, k2⟩
    · cases z
    · cases z1
      unfold PyData.depthAll
      exact Nat.max_le.mpr ⟨ih _ _ k1, dpL_depth ih xs q k2⟩
theorem dp_ok {rho : Rho} {H : Hp} {K : PySem.W.Frag} {h : Hh} (S : Sim g rho h H) : ∀ (n : Nat) (d : D) (v : V) (p : PyData), Rp g rho H d v → dp h n d = some p → Dp K H v p := by
  intro n
  induction n with
  | zero =>
    intro d v p r e
    cases d with
    | non => have q := r.non_; subst q; unfold dp at e; cases e; exact .non
    | bl b => have q := r.bl_; subst q; unfold dp at e; cases e; exact .bl b
    | int b => have q := r.int_; subst q; unfold dp at e; cases e; exact .int b
    | str b => have q := r.str_; subst q; unfold dp at e; cases e; exact .str b
    | _ => unfold dp at e; cases e
  | succ n ih =>
    intro d v p r e
    have lists : (match lstOf h d with
      | some xs => (match dpL (dp h n) xs with
        | some ps => some (PyData.list ps)
        | none => none)
      | none => none) = some p → Dp K H v p := fun e => by
      cases q : lstOf h d with
      | none => rw [q] at e; cases e
      | some xs =>
        rw [q] at e
        cases q2 : dpL (dp h n) xs with
        | none => simp only [q2] at e; cases e
        | some ps =>
          simp only [q2] at e
          cases e
          obtain ⟨a, vs, rfl, t, l⟩ := lst_ok S r q
          exact .lst (.inl (.inl t)) (dpL_dp (fun d v p r e => ih d v p r e) xs vs ps l q2)
    cases d with
    | non => have q := r.non_; subst q; unfold dp at e; cases e; exact .non
    | bl b => have q := r.bl_; subst q; unfold dp at e; cases e; exact .bl b
    | int b => have q := r.int_; subst q; unfold dp at e; cases e; exact .int b
    | str b => have q := r.str_; subst q; unfold dp at e; cases e; exact .str b
    | tup xs =>
      unfold dp at e
      cases q2 : dpL (dp h n) xs with
      | none => simp only [q2] at e; cases e
      | some ps =>
        simp only [q2] at e
        cases e
        obtain ⟨a, vs, rfl, t, l⟩ := r.tup_
        exact .tup (.inl (.inl t.1)) (dpL_dp (fun d v p r e => ih d v p r e) xs vs ps l q2)
    | _ => unfold dp at e; exact lists e
theorem dp_depth {h : Hh} : ∀ (n : Nat) (d : D) (p : PyData), dp h n d = some p → p.depth ≤ n := by
  intro n
  induction n with
  | zero =>
    intro d p e
    cases d <;> (unfold dp at e; cases e) <;> exact Nat.le_refl _
  | succ n ih =>
    intro d p e
    have lists : (match lstOf h d with
      | some xs => (match dpL (dp h n) xs with
        | some ps => some (PyData.list ps)
        | none => none)
      | none => none) = some p → p.depth ≤ n + 1 := fun e => by
      cases q : lstOf h d with
      | none => rw [q] at e; cases e
      | some xs =>
        rw [q] at e
        cases q2 : dpL (dp h n) xs with
        | none => simp only [q2] at e; cases e
        | some ps =>
          simp only [q2] at e
          cases e
          exact Nat.succ_le_succ (dpL_depth ih xs ps q2)
    cases d with
    | non => unfold dp at e; cases e; exact Nat.zero_le _
    | bl b => unfold dp at e; cases e; exact Nat.zero_le _
    | int b => unfold dp at e; cases e; exact Nat.zero_le _
    | str b => unfold dp at e; cases e; exact Nat.zero_le _
    | tup xs =>
      unfold dp at e
      cases q2 : dpL (dp h n) xs with
      | none => simp only [q2] at e; cases e
      | some ps =>
        simp only [q2] at e
        cases e
        exact Nat.succ_le_succ (dpL_depth ih xs ps q2)
    | _ => unfold dp at e; exact lists e
/-- == of data -/
def eqD (h : Hh) (x y : D) : Option Bool := match dp h 12 x, dp h 12 y with
  | some p, some q => if p.canLay0 && q.canLay0 then some (PyData.eqv p q) else none
  | _, _ => none
theorem eqD_some {h : Hh} {x y : D} {b : Bool} (e : eqD h x y = some b) : ∃ p q, dp h 12 x = some p ∧ dp h 12 y = some q ∧ SeqAt.shaped p = true ∧ SeqAt.shaped q = true ∧ PyData.eqv p q = b := by
  unfold eqD at e
  cases e1 : dp h 12 x with
  | none => rw [e1] at e; cases e
  | some p =>
    cases e2 : dp h 12 y with
    | none => rw [e1, e2] at e; cases e
    | some q =>
      rw [e1, e2] at e
      by_cases z : (p.canLay0 && q.canLay0) = true
      · have e3 : (if (p.canLay0 && q.canLay0) = true then some (PyData.eqv p q) else none) = some b := e
        rw [if_pos z] at e3
        obtain ⟨z1, z2⟩ := Bool.and_eq_true_iff.mp z
        have k1 := dp_depth _ _ _ e1
        have k2 := dp_depth _ _ _ e2
        exact ⟨p, q, rfl, rfl, by unfold SeqAt.shaped; rw [z1, decide_eq_true (by omega)]; rfl, by unfold SeqAt.shaped; rw [z2, decide_eq_true (by omega)]; rfl, Option.some.inj e3⟩
      · have e3 : (if (p.canLay0 && q.canLay0) = true then some (PyData.eqv p q) else none) = some b := e
        rw [if_neg z] at e3
        cases e3
def oEq (x y : D) (h : Hh) : Option D := (eqD h x y).map D.bl
def oNe (x y : D) (h : Hh) : Option D := (eqD h x y).map fun b => D.bl (!b)
theorem oEq_ok (cx : Cok g X W) : OpD g X (compareOp .Eq) oEq := by
  intro pins s sg H x y v u Q I rx ry hh
  obtain ⟨rho, h, d1, d2, d, S, r1, r2, eq, A⟩ := hh
  unfold oEq at eq
  cases q : eqD h d1 d2 with
  | none => rw [q] at eq; cases eq
  | some b =>
    rw [q] at eq
    cases eq
    obtain ⟨p, p', e1, e2, s1, s2, rfl⟩ := eqD_some q
    exact op_eqD (by have := cx.room.un; omega) pins s sg H x y v u Q I rx ry ⟨p, p', dp_ok S 12 _ _ _ r1 e1, dp_ok S 12 _ _ _ r2 e2, s1, s2, A rho H _ S (Ext.refl _ _) Rp.bl'⟩
theorem oNe_ok (cx : Cok g X W) : OpD g X (compareOp .NotEq) oNe := by
  intro pins s sg H x y v u Q I rx ry hh
  obtain ⟨rho, h, d1, d2, d, S, r1, r2, eq, A⟩ := hh
  unfold oNe at eq
  cases q : eqD h d1 d2 with
  | none => rw [q] at eq; cases eq
  | some b =>
    rw [q] at eq
    cases eq
    obtain ⟨p, p', e1, e2, s1, s2, rfl⟩ := eqD_some q
    exact op_neD (by have := cx.room.un; omega) pins s sg H x y v u Q I rx ry ⟨p, p', dp_ok S 12 _ _ _ r1 e1, dp_ok S 12 _ _ _ r2 e2, s1, s2, A rho H _ S (Ext.refl _ _) Rp.bl'⟩
end
end DL

set_option maxHeartbeats 1000000
/-! Tests, argument lists, displays, items, slices, built-in calls. -/
namespace DL
open PySem PySem.Spec PyProof.Rows L2
section
variable {g : G} {X : Cx} {W : WX} {e a b c : Expr} {es rest : List Expr} {f fa fb fc : Env' → Hh → Rs D} {ta tb : Env' → Hh → Rs Bool} {pos : Pos}
/-! ### and, or, not, if else -/
structure DW (g : G) (X : Cx) (W : WX) (e : Expr) (f : Env' → Hh → Rs Bool) : Prop where
  pw : Cok g X W → PW X e (okT g W f)
theorem PW.imp {t t' : TT} (p : PW X e t) (k : ∀ sg H Q, t' sg H Q → t sg H Q) : PW X e t' := ⟨fun wh pins s sg H Q I h => p.run wh pins s sg H Q I (k sg H Q h)⟩
theorem DW.dt (h : DW g X W e ta) : DT g X W e ta := ⟨fun cx => (h.pw cx).pt⟩
theorem dw_and1 (h : DT g X W a ta) : DW g X W (.BoolOp .And [a] pos) ta := ⟨fun cx => pw_and1 (h.pt cx)⟩
theorem dw_or1 (h : DT g X W a ta) : DW g X W (.BoolOp .Or [a] pos) ta := ⟨fun cx => pw_or1 (h.pt cx)⟩
def dAnd (ta tb : Env' → Hh → Rs Bool) : Env' → Hh → Rs Bool := fun de h => (ta de h).bd fun p h1 => match p with
  | true => tb de h1
  | false => .ok false h1
def dOr (ta tb : Env' → Hh → Rs Bool) : Env' → Hh → Rs Bool := fun de h => (ta de h).bd fun p h1 => match p with
  | true => .ok true h1
  | false => tb de h1
theorem dw_and (ha : DT g X W a ta) (hb : DW g X W (.BoolOp .And (b :: rest) pos) tb) : DW g X W (.BoolOp .And (a :: b :: rest) pos) (dAnd ta tb) := ⟨fun cx => PW.imp (pw_and (ha.pt cx) (hb.pw cx)) fun sg H Q ⟨rho, de, h, S, E, A⟩ => by
  refine okT.bd S E A fun rho1 H1 p h1 S1 e1 E1 A1 => ?_
  cases p with
  | true => exact iteT ⟨rho1, de, h1, S1, E1, A1⟩
  | false => exact iteF (A1 rho1 H1 false S1 (Ext.refl _ _) rfl)⟩
theorem dw_or (ha : DT g X W a ta) (hb : DW g X W (.BoolOp .Or (b :: rest) pos) tb) : DW g X W (.BoolOp .Or (a :: b :: rest) pos) (dOr ta tb) := ⟨fun cx => PW.imp (pw_or (ha.pt cx) (hb.pw cx)) fun sg H Q ⟨rho, de, h, S, E, A⟩ => by
  refine okT.bd S E A fun rho1 H1 p h1 S1 e1 E1 A1 => ?_
  cases p with
  | true => exact iteT (A1 rho1 H1 true S1 (Ext.refl _ _) rfl)
  | false => exact iteF ⟨rho1, de, h1, S1, E1, A1⟩⟩
def dNot (ta : Env' → Hh → Rs Bool) : Env' → Hh → Rs Bool := fun de h => (ta de h).bd fun p h1 => .ok (!p) h1
theorem dt_not (ha : DT g X W a ta) : DT g X W (.UnaryOp .Not a pos) (dNot ta) := ⟨fun cx => PT.imp (pt_not (ha.pt cx)) fun sg H Q ⟨rho, de, h, S, E, A⟩ => by
  refine okT.bd S E A fun rho1 H1 p h1 S1 e1 E1 A1 => ?_
  exact A1 rho1 H1 _ S1 (Ext.refl _ _) rfl⟩
/-- .. as values -/
theorem de_and1 {op} (h : DE g X W a fa) : DE g X W (.BoolOp op [a] pos) fa := ⟨fun cx => pe_one (h.pe cx)⟩
def dAndV (fa fb : Env' → Hh → Rs D) : Env' → Hh → Rs D := fun de h => (fa de h).bd fun d h1 => match blOf d with
  | some true => fb de h1
  | some false => .ok (.bl false) h1
  | none => .no
def dOrV (fa fb : Env' → Hh → Rs D) : Env' → Hh → Rs D := fun de h => (fa de h).bd fun d h1 => match blOf d with
  | some true => .ok (.bl true) h1
  | some false => fb de h1
  | none => .no
theorem de_and (ha : DE g X W a fa) (hb : DE g X W (.BoolOp .And (b :: rest) pos) fb) : DE g X W (.BoolOp .And (a :: b :: rest) pos) (dAndV fa fb) := ⟨fun cx => PE.imp (pe_and (ha.pe cx) (hb.pe cx)) fun sg H Q ⟨rho, de, h, S, E, A⟩ => by
  refine okE.bd S E A fun rho1 H1 x v1 h1 S1 e1 E1 r1 A1 => ?_
  cases q : blOf x with
  | none => simp only [q] at A1; exact False.elim A1
  | some p =>
    simp only [q] at A1
    refine ⟨p, blOf_ok q r1, ?_⟩
    cases p with
    | true => exact iteT ⟨rho1, de, h1, S1, E1, A1⟩
    | false => exact iteF (A1 rho1 H1 _ S1 (Ext.refl _ _) Rp.bl')⟩
theorem de_or (ha : DE g X W a fa) (hb : DE g X W (.BoolOp .Or (b :: rest) pos) fb) : DE g X W (.BoolOp .Or (a :: b :: rest) pos) (dOrV fa fb) := ⟨fun cx => PE.imp (pe_or (ha.pe cx) (hb.pe cx)) fun sg H Q ⟨rho, de, h, S, E, A⟩ => by
  refine okE.bd S E A fun rho1 H1 x v1 h1 S1 e1 E1 r1 A1 => ?_
  cases q : blOf x with
  | none => simp only [q] at A1; exact False.elim A1
  | some p =>
    simp only [q] at A1
    refine ⟨p, blOf_ok q r1, ?_⟩
    cases p with
    | true => exact iteT (A1 rho1 H1 _ S1 (Ext.refl _ _) Rp.bl')
    | false => exact iteF ⟨rho1, de, h1, S1, E1, A1⟩⟩
def dNotV (fa : Env' → Hh → Rs D) : Env' → Hh → Rs D := fun de h => (fa de h).bd fun d h1 => match blOf d with
  | some p => .ok (.bl (!p)) h1
  | none => .no
theorem de_not (ha : DE g X W a fa) : DE g X W (.UnaryOp .Not a pos) (dNotV fa) := ⟨fun cx => PE.imp (pe_not (ha.pe cx)) fun sg H Q ⟨rho, de, h, S, E, A⟩ => by
  refine okE.bd S E A fun rho1 H1 x v1 h1 S1 e1 E1 r1 A1 => ?_
  cases q : blOf x with
  | none => simp only [q] at A1; exact False.elim A1
  | some p =>
    simp only [q] at A1
    exact ⟨p, blOf_ok q r1, A1 rho1 H1 _ S1 (Ext.refl _ _) Rp.bl'⟩⟩
def dIf (t : Env' → Hh → Rs Bool) (fa fb : Env' → Hh → Rs D) : Env' → Hh → Rs D := fun de h => (t de h).bd fun p h1 => match p with
  | true => fa de h1
  | false => fb de h1
theorem de_if (hc : DT g X W c ta) (ha : DE g X W a fa) (hb : DE g X W b fb) : DE g X W (.IfExp c a b pos) (dIf ta fa fb) := ⟨fun cx => PE.imp (pe_ifExp (hc.pt cx) (ha.pe cx) (hb.pe cx)) fun sg H Q ⟨rho, de, h, S, E, A⟩ => by
  refine okT.bd S E A fun rho1 H1 p h1 S1 e1 E1 A1 => ?_
  cases p with
  | true => exact iteT ⟨rho1, de, h1, S1, E1, A1⟩
  | false => exact iteF ⟨rho1, de, h1, S1, E1, A1⟩⟩
/-- a op b op' c -/
def dChain (F F' : D → D → Hh → Option D) (fa fb fc : Env' → Hh → Rs D) : Env' → Hh → Rs D := fun de h => (fa de h).bd fun x h1 => (fb de h1).bd fun y h2 => match (F x y h2).bind blOf with
  | some true => (fc de h2).bd fun z h3 => ofO (F' y z h3) h3
  | some false => .ok (.bl false) h2
  | none => .no
theorem de_chain {op op' : CmpOp} {F F' : D → D → Hh → Option D} (o : Cok g X W → OpD g X (compareOp op) F) (o' : Cok g X W → OpD g X (compareOp op') F') (ha : DE g X W a fa) (hb : DE g X W b fb) (hc : DE g X W c fc)
    (hm : lastMarks [op, op'] [b, c] = false := by with_unfolding_all rfl) : DE g X W (.Compare a [op, op'] [b, c] pos) (dChain F F' fa fb fc) := ⟨fun cx => by
  refine PE.imp (pe_chain (o cx) (o' cx) (ha.pe cx) (hb.pe cx) (hc.pe cx) hm) fun sg H Q ⟨rho, de, h, S, E, A⟩ => ?_
  refine okE.bd S E A fun rho1 H1 x v1 h1 S1 e1 E1 r1 A1 => ?_
  refine okE.bd S1 E1 A1 fun rho2 H2 y v2 h2 S2 e2 E2 r2 A2 => ?_
  cases q : F x y h2 with
  | none => simp only [q] at A2; exact False.elim A2
  | some d =>
    simp only [q, Option.bind_some] at A2
    refine ⟨rho2, h2, x, y, d, S2, Rp.ext e2 _ _ r1, r2, q, fun rho3 H3 v3 S3 e3 r3 => ?_⟩
    cases q2 : blOf d with
    | none => simp only [q2] at A2; exact False.elim A2
    | some p =>
      simp only [q2] at A2
      refine ⟨p, blOf_ok q2 r3, ?_⟩
      cases p with
      | false => exact iteF (A2 rho3 H3 _ S3 e3 Rp.bl')
      | true =>
        refine iteT ?_
        refine okE.bd S3 (E2.ext e3) (A2.later e3) fun rho4 H4 z v4 h4 S4 e4 E4 r4 A4 => ?_
        obtain ⟨w, q4, k⟩ := A4.ofO
        exact ⟨rho4, h4, y, z, w, S4, Rp.ext e4 _ _ (Rp.ext e3 _ _ r2), r4, q4, k⟩⟩

/-! ### argument lists -/
def dNil : Env' → Hh → Rs (List D) := fun _ h => .ok [] h
def dCons (f : Env' → Hh → Rs D) (fs : Env' → Hh → Rs (List D)) : Env' → Hh → Rs (List D) := fun de h => (f de h).bd fun x h1 => (fs de h1).bd fun xs h2 => .ok (x :: xs) h2
theorem da_nil : DA g X W [] dNil := ⟨fun _ => PA.imp pa_nil fun sg H Q ⟨rho, de, h, S, E, A⟩ => A rho H [] S (Ext.refl _ _) RpL.nil⟩
theorem da_cons {fs : Env' → Hh → Rs (List D)} (he : DE g X W e f) (hr : DA g X W es fs) (hs : starEach (e :: es) X.env = (false, eval e X.env) :: starEach es X.env := by rfl) : DA g X W (e :: es) (dCons f fs) := ⟨fun cx => by
  refine PA.imp (pa_cons (he.pe cx) (hr.pa cx) hs) fun sg H Q ⟨rho, de, h, S, E, A⟩ => ?_
  refine okE.bd S E A fun rho1 H1 x v1 h1 S1 e1 E1 r1 A1 => ?_
  refine okL.bd S1 E1 A1 fun rho2 H2 xs vs h2 S2 e2 E2 r2 A2 => ?_
  exact A2 rho2 H2 _ S2 (Ext.refl _ _) (RpL.cons (Rp.ext e2 _ _ r1) r2)⟩

/-! ### fresh lists -/
def okN (g : G) (W : WX) (f : Env' → Hh → Rs (List D)) : TE := fun sg H Q => ∃ rho de h, Sim g rho h H ∧ EnvR g rho H de sg ∧ Aft g rho H (RpL g) (fun c d H' => W c d sg H') (f de h) fun vs H' => ∀ p, H' p = none → Q (.ref p) (upd H' p (.lst vs))
structure DN (g : G) (X : Cx) (W : WX) (e : Expr) (f : Env' → Hh → Rs (List D)) : Prop where
  pe : Cok g X W → PE X e (okN g W f)
/-- .. never written again -/
def dFz (f : Env' → Hh → Rs (List D)) : Env' → Hh → Rs D := fun de h => (f de h).bd fun xs h1 => .ok (.lst xs) h1
/-- .. an object of the abstract heap -/
def dAl (f : Env' → Hh → Rs (List D)) : Env' → Hh → Rs D := fun de h => (f de h).bd fun xs h1 => .ok (.ref h1.length) (h1 ++ [.lst xs])
theorem de_fz {fs : Env' → Hh → Rs (List D)} (h : DN g X W e fs) : DE g X W e (dFz fs) := ⟨fun cx => PE.imp (h.pe cx) fun sg H Q ⟨rho, de, h, S, E, A⟩ => ⟨rho, de, h, S, E, by
  refine A.bd fun rho1 H1 xs vs h1 S1 e1 r1 A1 p hp => ?_
  obtain ⟨s1, s2, s3⟩ := new_lst S1 hp r1
  exact A1 rho1 _ _ s1 s2 s3⟩⟩
theorem de_al {fs : Env' → Hh → Rs (List D)} (h : DN g X W e fs) : DE g X W e (dAl fs) := ⟨fun cx => PE.imp (h.pe cx) fun sg H Q ⟨rho, de, h, S, E, A⟩ => ⟨rho, de, h, S, E, by
  refine A.bd fun rho1 H1 xs vs h1 S1 e1 r1 A1 p hp => ?_
  obtain ⟨s1, s2, s3⟩ := new_ref S1 hp r1
  exact A1 _ _ _ s1 s2 s3⟩⟩
/-! ### displays -/
def dDisp (fs : Env' → Hh → Rs (List D)) : Env' → Hh → Rs (List D) := fun de h => (fs de h).bd fun xs h1 => if lim xs.length then .ok xs h1 else .no
theorem dn_lst {fs : Env' → Hh → Rs (List D)} (hs : DA g X W es fs) : DN g X W (.List es pos) (dDisp fs) := ⟨fun cx => PE.imp (pe_lst (hs.pa cx)) fun sg H Q ⟨rho, de, h, S, E, A⟩ => by
  refine okL.bd S E A fun rho1 H1 xs vs h1 S1 e1 E1 r1 A1 => ?_
  split at A1
  · rename_i hz
    exact ⟨by rw [← r1.length]; exact lim_le hz, A1 rho1 H1 vs S1 (Ext.refl _ _) r1⟩
  · exact False.elim A1⟩
def dTup (fs : Env' → Hh → Rs (List D)) : Env' → Hh → Rs D := fun de h => (fs de h).bd fun xs h1 => if lim xs.length then .ok (.tup xs) h1 else .no
theorem de_tup {fs : Env' → Hh → Rs (List D)} {x1} (hs : DA g X W es fs) : DE g X W (.Tuple es x1 pos) (dTup fs) := ⟨fun cx => PE.imp (pe_tup (hs.pa cx)) fun sg H Q ⟨rho, de, h, S, E, A⟩ => by
  refine okL.bd S E A fun rho1 H1 xs vs h1 S1 e1 E1 r1 A1 => ?_
  split at A1
  · rename_i hz
    refine ⟨by rw [← r1.length]; exact lim_le hz, fun p hp => ?_⟩
    obtain ⟨s1, s2, s3⟩ := new_tup S1 hp r1
    exact A1 rho1 _ _ s1 s2 s3
  · exact False.elim A1⟩

/-! ### items -/
def oIx (x y : D) (h : Hh) : Option D := match y with
  | .int i => (match x with
    | .str z => (atI z.cps.toList i).map fun c => .str ⟨#[c]⟩
    | x => (seqOf h x).bind fun xs => atI xs i)
  | _ => none
theorem atI_rp {rho : Rho} {H : Hp} {xs : List D} {vs : List V} {i : Int} {d : D} (r : RpL g rho H xs vs) (e : atI xs i = some d) : ∃ v, atI vs i = some v ∧ Rp g rho H d v := by
  unfold atI at e ⊢
  rw [← r.length]
  cases q : ixN xs.length i with
  | none => rw [q] at e; cases e
  | some j =>
    rw [q] at e
    exact r.get e
theorem de_ix (ha : DE g X W a fa) (hb : DE g X W b fb) (hs : PlainIx b := by intro _ _; rfl) :
    DE g X W (.Subscript a b pos) (fun de h => (fa de h).bd fun x h1 => (fb de h1).bd fun y h2 => match x with
      | .str z => if lim z.length then ofO (oIx x y h2) h2 else .no
      | _ => ofO (oIx x y h2) h2) := ⟨fun cx => by
  refine PE.imp (pe_ix ix_seq (ha.pe cx) (hb.pe cx) hs) fun sg H Q ⟨rho, de, h, S, E, A⟩ => ?_
  refine okE.bd S E A fun rho1 H1 x v1 h1 S1 e1 E1 r1 A1 => ?_
  refine okE.bd S1 E1 A1 fun rho2 H2 y v2 h2 S2 e2 E2 r2 A2 => ?_
  have r1' := Rp.ext e2 _ _ r1
  have seqs : ∀ d, (∀ z, x ≠ .str z) → oIx x y h2 = some d → Giv g rho2 H2 h2 d Q → rIx X.K v1 v2 H2 Q := fun d ns q k => by
    unfold oIx at q
    split at q
    · rename_i i
      split at q
      · rename_i z
        exact absurd rfl (ns z)
      · cases q1 : seqOf h2 x with
        | none => rw [q1] at q; cases q
        | some xs =>
          rw [q1] at q
          obtain ⟨p, vs, rfl, t, l⟩ := seq_ok S2 r1' q1
          obtain ⟨w, k1, k2⟩ := atI_rp l q
          rcases t with t | t
          · exact .inl ⟨p, vs, i, w, rfl, r2.int_, .inl (.inl t), k1, k rho2 H2 w S2 (Ext.refl _ _) k2⟩
          · exact .inr (.inl ⟨p, vs, i, w, rfl, r2.int_, .inl (.inl t), k1, k rho2 H2 w S2 (Ext.refl _ _) k2⟩)
    · cases q
  cases x with
  | str z =>
    have A3 : Aft g rho2 H2 (Rp g) (fun c d H' => W c d sg H') (if lim z.length then ofO (oIx (.str z) y h2) h2 else .no) Q := A2
    split at A3
    · rename_i hz
      obtain ⟨d, q, k⟩ := A3.ofO
      unfold oIx at q
      split at q
      · rename_i i
        cases q1 : atI z.cps.toList i with
        | none => simp only [q1] at q; cases q
        | some c =>
          simp only [q1] at q
          cases q
          exact .inr (.inr ⟨z, i, c, r1'.str_, r2.int_, lim_le hz, q1, k rho2 H2 _ S2 (Ext.refl _ _) Rp.str'⟩)
      · cases q
    · exact False.elim A3
  | _ =>
    obtain ⟨d, q, k⟩ := A2.ofO
    exact seqs d (fun z => by simp) q k⟩
end
end DL

set_option maxHeartbeats 1000000
/-! Dicts; in; subscripts of any kind. -/
namespace DL
open PySem PySem.Spec PyProof.Rows L2
section
variable {κ : Type} [DecidableEq κ] (ko : D → Option κ)
def lookP : List (D × D) → κ → Option D
  | [], _ => none
  | p :: r, c => if ko p.1 = some c then some p.2 else lookP r c
def setP : List (D × D) → κ → D → List (D × D)
  | [], _, _ => []
  | p :: r, c, x => (if ko p.1 = some c then (p.1, x) else p) :: setP r c x
def putP (kvs : List (D × D)) (k : D) (c : κ) (x : D) : List (D × D) := if (lookP ko kvs c).isSome then setP ko kvs c x else kvs ++ [(k, x)]
def dropP : List (D × D) → κ → List (D × D)
  | [], _ => []
  | p :: r, c => if ko p.1 = some c then dropP r c else p :: dropP r c
variable {ko} {g : G} {rho : Rho} {H : Hp}
theorem allOf_cons {d : D} {ds : List D} {kk : List κ} (h : allOf ko (d :: ds) = some kk) : ∃ k r, kk = k :: r ∧ ko d = some k ∧ allOf ko ds = some r := by
  unfold allOf at h
  cases e1 : ko d with
  | none => rw [e1] at h; cases h
  | some k =>
    cases e2 : allOf ko ds with
    | none => rw [e1, e2] at h; cases h
    | some r =>
      rw [e1, e2] at h
      cases h
      exact ⟨k, r, rfl, rfl, rfl⟩
theorem allOf_len : ∀ {ds : List D} {kk : List κ}, allOf ko ds = some kk → ds.length = kk.length
  | [], kk, h => by
    unfold allOf at h
    cases h
    rfl
  | d :: ds, kk, h => by
    obtain ⟨k, r, rfl, _, e⟩ := allOf_cons h
    rw [List.length_cons, List.length_cons, allOf_len e]
theorem allOf_app : ∀ {ds es : List D} {kk ll : List κ}, allOf ko ds = some kk → allOf ko es = some ll → allOf ko (ds ++ es) = some (kk ++ ll)
  | [], es, kk, ll, h, k => by
    unfold allOf at h
    cases h
    exact k
  | d :: ds, es, kk, ll, h, k => by
    obtain ⟨c, r, rfl, e1, e2⟩ := allOf_cons h
    show (match ko d, allOf ko (ds ++ es) with
      | some k, some ks => some (k :: ks)
      | _, _ => none) = _
    rw [e1, allOf_app e2 k]
    rfl
theorem look_ok (c : κ) : ∀ {kvs : List (D × D)} {kk : List κ} {vs : List V}, allOf ko (kvs.map (·.1)) = some kk → RpL g rho H (kvs.map (·.2)) vs →
    (lookP ko kvs c = none ∧ valV (kk.zip vs) c = none) ∨ ∃ d v, lookP ko kvs c = some d ∧ valV (kk.zip vs) c = some v ∧ Rp g rho H d v
  | [], kk, vs, h, r => by
    have e : kk = [] := by
      have h2 : allOf ko [] = some kk := h
      unfold allOf at h2
      cases h2
      rfl
    subst e
    exact .inl ⟨rfl, rfl⟩
  | p :: kvs, kk, vs, h, r => by
    obtain ⟨k, kr, rfl, e1, e2⟩ := allOf_cons (show allOf ko (p.1 :: kvs.map (·.1)) = some kk from h)
    obtain ⟨v, w, rfl, r1, r2⟩ := RpL.inv (show RpL g rho H (p.2 :: kvs.map (·.2)) vs from r)
    unfold lookP
    rw [e1, List.zip_cons_cons]
    by_cases q : k = c
    · subst q
      rw [if_pos rfl]
      exact .inr ⟨p.2, v, rfl, valV_pos rfl, r1⟩
    · rw [if_neg (fun z => q (Option.some.inj z)), valV_neg q]
      exact look_ok c e2 r2
theorem set_ok (c : κ) {x : D} {u : V} (rx : Rp g rho H x u) : ∀ {kvs : List (D × D)} {kk : List κ} {vs : List V}, allOf ko (kvs.map (·.1)) = some kk → RpL g rho H (kvs.map (·.2)) vs →
    allOf ko ((setP ko kvs c x).map (·.1)) = some kk ∧ ∃ ws, RpL g rho H ((setP ko kvs c x).map (·.2)) ws ∧ kk.zip ws = (kk.zip vs).map fun kv => if kv.1 = c then (kv.1, u) else kv
  | [], kk, vs, h, r => by
    have e : kk = [] := by
      have h2 : allOf ko [] = some kk := h
      unfold allOf at h2
      cases h2
      rfl
    subst e
    exact ⟨h, vs, r, rfl⟩
  | p :: kvs, kk, vs, h, r => by
    obtain ⟨k, kr, rfl, e1, e2⟩ := allOf_cons (show allOf ko (p.1 :: kvs.map (·.1)) = some kk from h)
    obtain ⟨v, w, rfl, r1, r2⟩ := RpL.inv (show RpL g rho H (p.2 :: kvs.map (·.2)) vs from r)
    obtain ⟨h1, ws, h2, h3⟩ := set_ok c rx e2 r2
    have hk : (if ko p.1 = some c then (p.1, x) else p).1 = p.1 := by split <;> rfl
    refine ⟨?_, (if k = c then u else v) :: ws, ?_, ?_⟩
    · show allOf ko ((if ko p.1 = some c then (p.1, x) else p).1 :: (setP ko kvs c x).map (·.1)) = _
      rw [hk]
      unfold allOf
      rw [e1, h1]
    · show RpL g rho H ((if ko p.1 = some c then (p.1, x) else p).2 :: (setP ko kvs c x).map (·.2)) _
      rw [e1]
      refine RpL.cons ?_ h2
      by_cases q : k = c
      · rw [if_pos (by rw [q]), if_pos q]
        exact rx
      · rw [if_neg (fun z => q (Option.some.inj z)), if_neg q]
        exact r1
    · rw [List.zip_cons_cons, List.zip_cons_cons, List.map_cons, h3]
      by_cases q : k = c
      · rw [if_pos q, if_pos q]
      · rw [if_neg q, if_neg q]
theorem put_ok {k : D} {c : κ} (hk : ko k = some c) {x : D} {u : V} (rx : Rp g rho H x u) {kvs : List (D × D)} {kk : List κ} {vs : List V} (h : allOf ko (kvs.map (·.1)) = some kk) (r : RpL g rho H (kvs.map (·.2)) vs) :
    ∃ kk' ws, allOf ko ((putP ko kvs k c x).map (·.1)) = some kk' ∧ RpL g rho H ((putP ko kvs k c x).map (·.2)) ws ∧ kk'.zip ws = putK (kk.zip vs) c u := by
  have any : (lookP ko kvs c).isSome = (kk.zip vs).any fun kv => decide (kv.1 = c) := by
    rw [valV_any]
    rcases look_ok c h r with ⟨a, b⟩ | ⟨d, v, a, b, _⟩
    · rw [a, b]; rfl
    · rw [a, b]; rfl
  unfold putP putK
  rw [any]
  by_cases q : ((kk.zip vs).any fun kv => decide (kv.1 = c)) = true
  · rw [if_pos q, if_pos q]
    obtain ⟨h1, ws, h2, h3⟩ := set_ok c rx h r
    exact ⟨kk, ws, h1, h2, h3⟩
  · rw [if_neg q, if_neg q]
    refine ⟨kk ++ [c], vs ++ [u], ?_, ?_, ?_⟩
    · rw [List.map_append]
      refine allOf_app h ?_
      show (match ko k, allOf ko [] with
        | some k, some ks => some (k :: ks)
        | _, _ => none) = _
      rw [hk]
      rfl
    · rw [List.map_append]
      exact r.app (.cons rx .nil)
    · rw [List.zip_append (by rw [← allOf_len h, ← r.length, List.length_map, List.length_map])]
      rfl
theorem drop_ok (c : κ) : ∀ {kvs : List (D × D)} {kk : List κ} {vs : List V}, allOf ko (kvs.map (·.1)) = some kk → RpL g rho H (kvs.map (·.2)) vs →
    ∃ kk' ws, allOf ko ((dropP ko kvs c).map (·.1)) = some kk' ∧ RpL g rho H ((dropP ko kvs c).map (·.2)) ws ∧ kk'.zip ws = dropK (kk.zip vs) c
  | [], kk, vs, h, r => by
    have e : kk = [] := by
      have h2 : allOf ko [] = some kk := h
      unfold allOf at h2
      cases h2
      rfl
    subst e
    exact ⟨[], vs, h, r, rfl⟩
  | p :: kvs, kk, vs, h, r => by
    obtain ⟨k, kr, rfl, e1, e2⟩ := allOf_cons (show allOf ko (p.1 :: kvs.map (·.1)) = some kk from h)
    obtain ⟨v, w, rfl, r1, r2⟩ := RpL.inv (show RpL g rho H (p.2 :: kvs.map (·.2)) vs from r)
    obtain ⟨kk', ws, h1, h2, h3⟩ := drop_ok c e2 r2
    unfold dropP
    rw [e1]
    by_cases q : k = c
    · rw [if_pos (by rw [q])]
      refine ⟨kk', ws, h1, h2, ?_⟩
      rw [h3, List.zip_cons_cons]
      unfold dropK
      rw [List.filter_cons_of_neg]
      simpa using q
    · rw [if_neg (fun z => q (Option.some.inj z))]
      refine ⟨k :: kk', v :: ws, ?_, .cons r1 h2, ?_⟩
      · show allOf ko (p.1 :: (dropP ko kvs c).map (·.1)) = _
        unfold allOf
        rw [e1, h1]
      · rw [List.zip_cons_cons, List.zip_cons_cons, h3]
        unfold dropK
        rw [List.filter_cons_of_pos]
        simpa using q
end
/-! ### keys -/
section
variable {g : G} {rho : Rho} {H : Hp}
theorem keyOf_v {d : D} {c : Key} {v : V} (e : keyOf d = some c) (r : Rp g rho H d v) : v = kV c := by
  cases d with
  | int i => cases e; exact r.int_
  | str i => cases e; exact r.str_
  | _ => cases e
theorem keysOf_v : ∀ {ds : List D} {cs : List Key} {vs : List V}, keysOf ds = some cs → RpL g rho H ds vs → vs = cs.map kV
  | [], cs, vs, e, r => by
    have q := r.inv0
    subst q
    have e2 : allOf keyOf [] = some cs := e
    unfold allOf at e2
    cases e2
    rfl
  | d :: ds, cs, vs, e, r => by
    obtain ⟨k, kr, rfl, e1, e2⟩ := allOf_cons e
    obtain ⟨v, w, rfl, r1, r2⟩ := r.inv
    rw [keyOf_v e1 r1, keysOf_v e2 r2]
    rfl
theorem tkeyOf_v {d : D} {c : List Key} {v : V} (e : tkeyOf d = some c) (r : Rp g rho H d v) : ∃ b, v = .ref b ∧ H b = some (.tup (c.map kV)) := by
  cases d with
  | tup xs =>
    obtain ⟨a, vs, rfl, t, l⟩ := r.tup_
    have e2 : keysOf xs = some c := e
    rw [← keysOf_v e2 l]
    exact ⟨a, rfl, t.1⟩
  | _ => cases e
/-- a dict that may be read -/
def dctOf (h : Hh) : D → Option (Bool × List (D × D))
  | .dct t ks xs => if ks.length = xs.length then some (t, ks.zip xs) else none
  | .ref i => match h[i]? with
    | some (.dct t kvs) => some (t, kvs)
    | some (.lock t kvs) => some (t, kvs)
    | _ => none
  | _ => none
theorem zip_fst {α β : Type} : ∀ {l : List α} {m : List β}, l.length = m.length → (l.zip m).map (·.1) = l
  | [], [], _ => rfl
  | a :: l, b :: m, h => by
    rw [List.zip_cons_cons, List.map_cons, zip_fst (by simpa using h)]
  | [], _ :: _, h => by simp at h
  | _ :: _, [], h => by simp at h
theorem zip_snd {α β : Type} : ∀ {l : List α} {m : List β}, l.length = m.length → (l.zip m).map (·.2) = m
  | [], [], _ => rfl
  | a :: l, b :: m, h => by
    rw [List.zip_cons_cons, List.map_cons, zip_snd (by simpa using h)]
  | [], _ :: _, h => by simp at h
  | _ :: _, [], h => by simp at h
theorem dct_ok {h : Hh} (S : Sim g rho h H) {d : D} {v : V} {t : Bool} {kvs : List (D × D)} (r : Rp g rho H d v) (e : dctOf h d = some (t, kvs)) :
    ∃ a vs o, v = .ref a ∧ Rd H a o ∧ DObj t o (kvs.map (·.1)) vs ∧ RpL g rho H (kvs.map (·.2)) vs := by
  cases d with
  | dct t' ks xs =>
    have e2 : (if ks.length = xs.length then some (t', ks.zip xs) else none) = some (t, kvs) := e
    by_cases hl : ks.length = xs.length
    · rw [if_pos hl] at e2
      cases e2
      unfold Rp at r
      obtain ⟨a, vs, rfl, ⟨o, r1, _, r3⟩, l⟩ := r
      exact ⟨a, vs, o, rfl, .inl r1, by rw [zip_fst hl]; exact r3, by rw [zip_snd hl]; exact l⟩
    · rw [if_neg hl] at e2
      cases e2
  | ref i =>
    unfold Rp at r
    cases q : h[i]? with
    | none => simp [dctOf, q] at e
    | some o =>
      cases o with
      | dct t' kvs' =>
        have e2 : t' = t ∧ kvs' = kvs := by simpa [dctOf, q] using e
        obtain ⟨rfl, rfl⟩ := e2
        obtain ⟨a, vs, o, h1, h2, h3, h4⟩ := S.obj i _ q
        exact ⟨a, vs, o, r.2 a h1, .inl h2, h3, h4⟩
      | lock t' kvs' =>
        have e2 : t' = t ∧ kvs' = kvs := by simpa [dctOf, q] using e
        obtain ⟨rfl, rfl⟩ := e2
        obtain ⟨a, vs, o, ob, h1, h2, h3, h4⟩ := S.obj i _ q
        exact ⟨a, vs, o, r.2 a h1, .inr ⟨ob, h2⟩, h3, h4⟩
      | _ => simp [dctOf, q] at e
  | _ => simp [dctOf] at e
/-- what is at a key: none where the key is of another kind -/
def dlook (t : Bool) (kvs : List (D × D)) (k : D) : Option (Option D) := match t with
  | false => (keyOf k).map (lookP keyOf kvs)
  | true => (tkeyOf k).map (lookP tkeyOf kvs)
theorem dget_ok {t : Bool} {kvs : List (D × D)} {k : D} {r : Option D} {a : Addr} {vs : List V} {o : HO} {y : V} (e : dlook t kvs k = some r) (hr : Rd H a o) (ho : DObj t o (kvs.map (·.1)) vs) (hv : RpL g rho H (kvs.map (·.2)) vs) (hk : Rp g rho H k y) :
    (r = none ∧ DGet H a y none) ∨ ∃ d v, r = some d ∧ DGet H a y (some v) ∧ Rp g rho H d v := by
  cases t with
  | false =>
    obtain ⟨_, kk, h1, rfl⟩ := ho
    have e' : (keyOf k).map (lookP keyOf kvs) = some r := e
    cases q : keyOf k with
    | none => rw [q] at e'; cases e'
    | some c =>
      rw [q] at e'
      cases e'
      have qv := keyOf_v q hk
      subst qv
      rcases look_ok c h1 hv with ⟨z1, z2⟩ | ⟨d, v, z1, z2, z3⟩
      · exact .inl ⟨z1, .inl ⟨_, c, hr, rfl, z2.symm⟩⟩
      · exact .inr ⟨d, v, z1, .inl ⟨_, c, hr, rfl, z2.symm⟩, z3⟩
  | true =>
    obtain ⟨_, kk, h1, rfl⟩ := ho
    have e' : (tkeyOf k).map (lookP tkeyOf kvs) = some r := e
    cases q : tkeyOf k with
    | none => rw [q] at e'; cases e'
    | some c =>
      rw [q] at e'
      cases e'
      obtain ⟨b, rfl, hb⟩ := tkeyOf_v q hk
      rcases look_ok c h1 hv with ⟨z1, z2⟩ | ⟨d, v, z1, z2, z3⟩
      · exact .inl ⟨z1, .inr ⟨_, c, b, hr, rfl, hb, z2.symm⟩⟩
      · exact .inr ⟨d, v, z1, .inr ⟨_, c, b, hr, rfl, hb, z2.symm⟩, z3⟩
end
section
variable {g : G} {X : Cx} {W : WX} {e a b c : Expr} {es rest : List Expr} {f fa fb fc : Env' → Hh → Rs D} {pos : Pos}
theorem ix_dict (hu : X.A.units + 1 < cLine) : IxR X fun x y H Q => ∃ p v, x = .ref p ∧ DGet H p y (some v) ∧ Q v H := by
  intro value slice pins s sg H x y v u Q I rx ry h hs
  obtain ⟨p, w, rfl, gt, q⟩ := h
  cases rx
  exact tail_any (dict_typeIs I gt) PySem.F.slot_dict_getitem.lookup (d_getItem hu I gt ry fun w' s3 I3 rw' => ⟨w, H, I3, rw', q⟩) hs
/-- a[b]: of a list, a tuple, a text, a dict -/
def oIt (x y : D) (h : Hh) : Option D := match x with
  | .str z => if lim z.length then (match y with
    | .int i => (atI z.cps.toList i).map fun c => D.str ⟨#[c]⟩
    | _ => none) else none
  | x => match dctOf h x with
    | some (t, kvs) => (dlook t kvs y).bind id
    | none => (match y with
      | .int i => (seqOf h x).bind fun xs => atI xs i
      | _ => none)
def dIx (fa fb : Env' → Hh → Rs D) : Env' → Hh → Rs D := dOp oIt fa fb
theorem de_it (ha : DE g X W a fa) (hb : DE g X W b fb) (hs : PlainIx b := by intro _ _; rfl) : DE g X W (.Subscript a b pos) (dIx fa fb) := ⟨fun cx => by
  refine PE.imp (pe_ix (ix_seq.or (ix_dict (by have := cx.room.un; omega))) (ha.pe cx) (hb.pe cx) hs) fun sg H Q ⟨rho, de, h, S, E, A⟩ => ?_
  refine okE.bd S E A fun rho1 H1 x v1 h1 S1 e1 E1 r1 A1 => ?_
  refine okE.bd S1 E1 A1 fun rho2 H2 y v2 h2 S2 e2 E2 r2 A2 => ?_
  have r1' := Rp.ext e2 _ _ r1
  obtain ⟨d, q, k⟩ := A2.ofO
  unfold oIt at q
  split at q
  · rename_i z
    split at q
    · rename_i hz
      split at q
      · rename_i i
        cases q1 : atI z.cps.toList i with
        | none => simp only [q1] at q; cases q
        | some c =>
          simp only [q1] at q
          cases q
          exact .inl (.inr (.inr ⟨z, i, c, r1'.str_, r2.int_, lim_le hz, q1, k rho2 H2 _ S2 (Ext.refl _ _) Rp.str'⟩))
      · cases q
    · cases q
  · cases q1 : dctOf h2 x with
    | some p =>
      obtain ⟨t, kvs⟩ := p
      simp only [q1] at q
      cases q2 : dlook t kvs y with
      | none => rw [q2] at q; cases q
      | some r =>
        rw [q2] at q
        have q' : r = some d := q
        subst q'
        obtain ⟨p, vs, o, rfl, hr, ho, hv⟩ := dct_ok S2 r1' q1
        rcases dget_ok q2 hr ho hv r2 with ⟨z, _⟩ | ⟨d', w, z, g1, g2⟩
        · cases z
        · cases z
          exact .inr ⟨p, w, rfl, g1, k rho2 H2 w S2 (Ext.refl _ _) g2⟩
    | none =>
      simp only [q1] at q
      split at q
      · rename_i i
        cases q2 : seqOf h2 x with
        | none => rw [q2] at q; cases q
        | some xs =>
          rw [q2] at q
          obtain ⟨p, vs, rfl, t, l⟩ := seq_ok S2 r1' q2
          obtain ⟨w, k1, k2⟩ := atI_rp l q
          rcases t with t | t
          · exact .inl (.inl ⟨p, vs, i, w, rfl, r2.int_, .inl (.inl t), k1, k rho2 H2 w S2 (Ext.refl _ _) k2⟩)
          · exact .inl (.inr (.inl ⟨p, vs, i, w, rfl, r2.int_, .inl (.inl t), k1, k rho2 H2 w S2 (Ext.refl _ _) k2⟩))
      · cases q⟩
/-! ### in -/
theorem op_inDc (hu : X.A.units + 1 < cLine) : OpR X (compareOp .In) fun x y H Q => ∃ p o, y = .ref p ∧ DGet H p x o ∧ Q (.bl o.isSome) H := by
  intro pins s sg H x y v u Q I rx ry h
  obtain ⟨p, o, rfl, gt, q⟩ := h
  cases ry
  exact d_in hu I gt rx fun s3 I3 => ⟨.bl o.isSome, H, I3, rfl, q⟩
theorem op_ninDc (hu : X.A.units + 1 < cLine) : OpR X (compareOp .NotIn) fun x y H Q => ∃ p o, y = .ref p ∧ DGet H p x o ∧ Q (.bl (!o.isSome)) H := by
  intro pins s sg H x y v u Q I rx ry h
  obtain ⟨p, o, rfl, gt, q⟩ := h
  cases ry
  exact d_notIn hu I gt rx fun s3 I3 => ⟨.bl (!o.isSome), H, I3, rfl, q⟩
theorem dp_seq {h : Hh} {y : D} {p : PyData} {xs : List D} (e : dp h 12 y = some p) (q : seqOf h y = some xs) : ∃ ps, dpL (dp h 11) xs = some ps ∧ (p = .list ps ∨ p = .tuple ps) := by
  cases y with
  | tup ys =>
    cases q
    unfold dp at e
    cases q2 : dpL (dp h 11) xs with
    | none => simp only [q2] at e; cases e
    | some ps =>
      simp only [q2] at e
      cases e
      exact ⟨ps, rfl, .inr rfl⟩
  | non => cases q
  | bl _ => cases q
  | int _ => cases q
  | str _ => cases q
  | _ =>
    unfold dp at e
    unfold seqOf at q
    simp only [q] at e
    cases q2 : dpL (dp h 11) xs with
    | none => simp only [q2] at e; cases e
    | some ps =>
      simp only [q2] at e
      cases e
      exact ⟨ps, rfl, .inl rfl⟩
/-- is x one of y's -/
def inD (h : Hh) (x y : D) : Option Bool := match y with
  | .str z => (match x with
    | .str c => (match c.cps.toList with
      | [k] => some (decide (k ∈ z.cps.toList))
      | _ => none)
    | _ => none)
  | y => match dctOf h y with
    | some (t, kvs) => (dlook t kvs x).map Option.isSome
    | none => match dp h 12 x, dp h 12 y with
      | some p, some (.list qs) => if p.canLay0 && PyData.canLayAll0 qs then some (qs.any fun z => PyData.eqv z p) else none
      | some p, some (.tuple qs) => if p.canLay0 && PyData.canLayAll0 qs then some (qs.any fun z => PyData.eqv z p) else none
      | _, _ => none
def oIn (x y : D) (h : Hh) : Option D := (inD h x y).map D.bl
def oNin (x y : D) (h : Hh) : Option D := (inD h x y).map fun b => D.bl (!b)
/-- what the machine's two answers lean on -/
theorem inD_ok {rho : Rho} {H : Hp} {h : Hh} (S : Sim g rho h H) {x y : D} {v u : V} {b : Bool} (rx : Rp g rho H x v) (ry : Rp g rho H y u) (e : inD h x y = some b) :
    (∃ (c : Nat) (z : Str), v = .str ⟨#[c]⟩ ∧ u = .str z ∧ b = decide (c ∈ z.cps.toList)) ∨ (∃ p o, u = .ref p ∧ DGet H p v o ∧ b = o.isSome) ∨
    (∃ d ds, (∀ K, Dp K H v d) ∧ ((∀ K, Dp K H u (.list ds)) ∨ (∀ K, Dp K H u (.tuple ds))) ∧ SeqAt.shaped d = true ∧ SeqAt.shaped (.list ds) = true ∧ SeqAt.shaped (.tuple ds) = true ∧ b = ds.any fun z => PyData.eqv z d) := by
  unfold inD at e
  split at e
  · rename_i z
    split at e
    · rename_i c
      split at e
      · rename_i k hk
        cases e
        refine .inl ⟨k, z, ?_, ry.str_, rfl⟩
        rw [rx.str_]
        have q : c.cps = #[k] := by
          have := congrArg List.toArray hk
          simpa using this
        cases c
        simp only at q
        rw [q]
      · cases e
    · cases e
  · cases q1 : dctOf h y with
    | some p =>
      obtain ⟨t, kvs⟩ := p
      simp only [q1] at e
      cases q2 : dlook t kvs x with
      | none => rw [q2] at e; cases e
      | some r =>
        rw [q2] at e
        cases e
        obtain ⟨p, vs, o, rfl, hr, ho, hv⟩ := dct_ok S ry q1
        rcases dget_ok q2 hr ho hv rx with ⟨z, g1⟩ | ⟨d', w, z, g1, _⟩
        · exact .inr (.inl ⟨p, none, rfl, g1, by rw [z]; rfl⟩)
        · exact .inr (.inl ⟨p, some w, rfl, g1, by rw [z]; rfl⟩)
    | none =>
      simp only [q1] at e
      cases q2 : dp h 12 x with
      | none => simp only [q2] at e; cases e
      | some p =>
        cases q3 : dp h 12 y with
        | none => simp only [q2, q3] at e; cases e
        | some q =>
          have k1 := dp_depth _ _ _ q2
          have k2 := dp_depth _ _ _ q3
          have fin : ∀ ds, (q = .list ds ∨ q = .tuple ds) → (if (p.canLay0 && PyData.canLayAll0 ds) = true then some (ds.any fun z => PyData.eqv z p) else none) = some b →
              (∃ d ds, (∀ K, Dp K H v d) ∧ ((∀ K, Dp K H u (.list ds)) ∨ (∀ K, Dp K H u (.tuple ds))) ∧ SeqAt.shaped d = true ∧ SeqAt.shaped (.list ds) = true ∧ SeqAt.shaped (.tuple ds) = true ∧ b = ds.any fun z => PyData.eqv z d) := fun ds hq e => by
            by_cases z : (p.canLay0 && PyData.canLayAll0 ds) = true
            · rw [if_pos z] at e
              obtain ⟨z1, z2⟩ := Bool.and_eq_true_iff.mp z
              have dd : PyData.depthAll ds + 1 ≤ 12 := by
                rcases hq with hq | hq
                · rw [hq] at k2; exact k2
                · rw [hq] at k2; exact k2
              have s1 : SeqAt.shaped (.list ds) = true := by
                unfold SeqAt.shaped
                rw [show PyData.canLay0 (.list ds) = PyData.canLayAll0 ds from by simp [PyData.canLay0], z2, show PyData.depth (.list ds) = PyData.depthAll ds + 1 from by simp [PyData.depth], decide_eq_true (by omega)]
                rfl
              have s2 : SeqAt.shaped (.tuple ds) = true := by
                unfold SeqAt.shaped
                rw [show PyData.canLay0 (.tuple ds) = PyData.canLayAll0 ds from by simp [PyData.canLay0], z2, show PyData.depth (.tuple ds) = PyData.depthAll ds + 1 from by simp [PyData.depth], decide_eq_true (by omega)]
                rfl
              refine ⟨p, ds, fun K => dp_ok S 12 _ _ _ rx q2, ?_, by unfold SeqAt.shaped; rw [z1, decide_eq_true (by omega)]; rfl, s1, s2, (Option.some.inj e).symm⟩
              rcases hq with hq | hq
              · subst hq
                exact .inl fun K => dp_ok S 12 _ _ _ ry q3
              · subst hq
                exact .inr fun K => dp_ok S 12 _ _ _ ry q3
            · rw [if_neg z] at e
              cases e
          simp only [q2, q3] at e
          split at e
          · rename_i a1 a2 a3 a4 a5
            cases a4
            cases a5
            exact .inr (.inr (fin _ (.inl rfl) e))
          · rename_i a1 a2 a3 a4 a5
            cases a4
            cases a5
            exact .inr (.inr (fin _ (.inr rfl) e))
          · cases e
theorem oIn_ok (cx : Cok g X W) : OpD g X (compareOp .In) oIn := by
  intro pins s sg H x y v u Q I rx ry hh
  obtain ⟨rho, h, d1, d2, d, S, r1, r2, eq, A⟩ := hh
  unfold oIn at eq
  cases q : inD h d1 d2 with
  | none => rw [q] at eq; cases eq
  | some b =>
    rw [q] at eq
    cases eq
    have un := cx.room.un
    have fin : Q (.bl b) H := A rho H _ S (Ext.refl _ _) Rp.bl'
    rcases inD_ok S r1 r2 q with ⟨c, z, e1, e2, e3⟩ | ⟨p, o, e1, e2, e3⟩ | ⟨d, ds, e1, e2, e3, e4, e5, e6⟩
    · exact op_in_sign pins s sg H x y v u Q I rx ry ⟨c, z, e1, e2, by rw [← e3]; exact fin⟩
    · exact op_inDc (by omega) pins s sg H x y v u Q I rx ry ⟨p, o, e1, e2, by rw [← e3]; exact fin⟩
    · rcases e2 with e2 | e2
      · exact op_inD (by omega) pins s sg H x y v u Q I rx ry ⟨d, ds, e1 _, e2 _, e3, e4, by rw [← e6]; exact fin⟩
      · obtain ⟨as, k1⟩ := Dp.reads I d x v (e1 _) rx
        obtain ⟨bs, k2⟩ := Dp.reads I (.tuple ds) y u (e2 _) ry
        exact SeqAt.in_tuple_reads k2 k1 (SeqAt.canLay_of_shaped e5) (SeqAt.canLay_of_shaped e3) (room_in_shaped e3 (by omega)) ⟨.bl _, H, I, rfl, by rw [← e6]; exact fin⟩
theorem oNin_ok (cx : Cok g X W) : OpD g X (compareOp .NotIn) oNin := by
  intro pins s sg H x y v u Q I rx ry hh
  obtain ⟨rho, h, d1, d2, d, S, r1, r2, eq, A⟩ := hh
  unfold oNin at eq
  cases q : inD h d1 d2 with
  | none => rw [q] at eq; cases eq
  | some b =>
    rw [q] at eq
    cases eq
    have un := cx.room.un
    have fin : Q (.bl (!b)) H := A rho H _ S (Ext.refl _ _) Rp.bl'
    rcases inD_ok S r1 r2 q with ⟨c, z, e1, e2, e3⟩ | ⟨p, o, e1, e2, e3⟩ | ⟨d, ds, e1, e2, e3, e4, e5, e6⟩
    · exact op_notIn_sign pins s sg H x y v u Q I rx ry ⟨c, z, e1, e2, by rw [← e3]; exact fin⟩
    · exact op_ninDc (by omega) pins s sg H x y v u Q I rx ry ⟨p, o, e1, e2, by rw [← e3]; exact fin⟩
    · rcases e2 with e2 | e2
      · exact op_notInD (by omega) pins s sg H x y v u Q I rx ry ⟨d, ds, e1 _, e2 _, e3, e4, by rw [← e6]; exact fin⟩
      · obtain ⟨as, k1⟩ := Dp.reads I d x v (e1 _) rx
        obtain ⟨bs, k2⟩ := Dp.reads I (.tuple ds) y u (e2 _) ry
        exact SeqAt.notIn_tuple_reads k2 k1 (SeqAt.canLay_of_shaped e5) (SeqAt.canLay_of_shaped e3) (room_in_shaped e3 (by omega)) ⟨.bl _, H, I, rfl, by rw [← e6]; exact fin⟩
end
end DL

set_option maxHeartbeats 1000000
/-! Statements; attributes; defs and calls. -/
namespace DL
open PySem PySem.Spec PyProof.Rows L2
/-- a value, then a statement's rest -/
def Rs.st {α : Type} (r : Rs α) (de : Env') (k : α → Hh → Sr) : Sr := match r with
  | .ok a h => k a h
  | .ex x h => .ex x de h
  | .no => .no
theorem st_ok {α : Type} (a : α) (h : Hh) (de : Env') (k : α → Hh → Sr) : (Rs.ok a h).st de k = k a h := rfl
theorem st_ex {α : Type} (x : XD) (h : Hh) (de : Env') (k : α → Hh → Sr) : (Rs.ex x h : Rs α).st de k = .ex x de h := rfl
theorem st_no {α : Type} (de : Env') (k : α → Hh → Sr) : (Rs.no : Rs α).st de k = .no := rfl
section
variable {g : G} {W : WX} {rho rho1 : Rho} {H H1 : Hp} {h : Hh} {de : Env'} {sg : St} {Ds Ds' : Ends} {r : Sr}
theorem AftS.later (A : AftS g W rho H Ds r) (e : Ext rho H rho1 H1) : AftS g W rho1 H1 Ds r := by
  cases r with
  | nx d h' => exact fun r1 H' sg' S e' E => A r1 H' sg' S (e.trans e') E
  | rt d h' => exact fun r1 H' v S e' E => A r1 H' v S (e.trans e') E
  | bk d h' => exact fun r1 H' sg' S e' E => A r1 H' sg' S (e.trans e') E
  | ct d h' => exact fun r1 H' sg' S e' E => A r1 H' sg' S (e.trans e') E
  | ex x d h' => exact fun r1 H' sg' c d S e' E rx => A r1 H' sg' c d S (e.trans e') E rx
  | no => exact A
theorem Aft.st {α β : Type} {r : Rs α} {R' : Rho → Hp → α → β → Prop} {k : α → Hh → Sr} {Q' : β → Hp → Prop} (E : EnvR g rho H de sg) (A : AftS g W rho H Ds (r.st de k))
    (n : ∀ rho1 H1 a b h1, Sim g rho1 h1 H1 → Ext rho H rho1 H1 → R' rho1 H1 a b → AftS g W rho1 H1 Ds (k a h1) → Q' b H1) : Aft g rho H R' (fun c d H' => W c d sg H') r Q' := by
  cases r with
  | ok a h' => exact fun rho' H' b S e r => n rho' H' a b h' S e r (AftS.later (r := k a h') A e)
  | ex x h' => exact fun rho' H' c d S e r => A rho' H' sg c d S e (E.ext e) r
  | no => exact A
theorem okE.st {f : Env' → Hh → Rs D} {k : D → Hh → Sr} {Q' : VK} (S : Sim g rho h H) (E : EnvR g rho H de sg) (A : AftS g W rho H Ds ((f de h).st de k))
    (n : ∀ rho1 H1 d v h1, Sim g rho1 h1 H1 → Ext rho H rho1 H1 → EnvR g rho1 H1 de sg → Rp g rho1 H1 d v → AftS g W rho1 H1 Ds (k d h1) → Q' v H1) : okE g W f sg H Q' :=
  ⟨rho, de, h, S, E, Aft.st E A fun rho1 H1 a b h1 S1 e1 r1 A1 => n rho1 H1 a b h1 S1 e1 (E.ext e1) r1 A1⟩
theorem okL.st {f : Env' → Hh → Rs (List D)} {k : List D → Hh → Sr} {Q' : List V → Hp → Prop} (S : Sim g rho h H) (E : EnvR g rho H de sg) (A : AftS g W rho H Ds ((f de h).st de k))
    (n : ∀ rho1 H1 d v h1, Sim g rho1 h1 H1 → Ext rho H rho1 H1 → EnvR g rho1 H1 de sg → RpL g rho1 H1 d v → AftS g W rho1 H1 Ds (k d h1) → Q' v H1) : okL g W f sg H Q' :=
  ⟨rho, de, h, S, E, Aft.st E A fun rho1 H1 a b h1 S1 e1 r1 A1 => n rho1 H1 a b h1 S1 e1 (E.ext e1) r1 A1⟩
theorem okT.st {f : Env' → Hh → Rs Bool} {k : Bool → Hh → Sr} {Q' : Bool → Hp → Prop} (S : Sim g rho h H) (E : EnvR g rho H de sg) (A : AftS g W rho H Ds ((f de h).st de k))
    (n : ∀ rho1 H1 b h1, Sim g rho1 h1 H1 → Ext rho H rho1 H1 → EnvR g rho1 H1 de sg → AftS g W rho1 H1 Ds (k b h1) → Q' b H1) : okT g W f sg H Q' :=
  ⟨rho, de, h, S, E, Aft.st (R' := RB) E A fun rho1 H1 a b h1 S1 e1 r1 A1 => by
    have r2 : a = b := r1
    subst r2
    exact n rho1 H1 a h1 S1 e1 (E.ext e1) A1⟩
end
section
variable {g : G} {X : Cx} {W : WX} {e a b c tg : Expr} {es : List Expr} {st : Stmt} {rest body orelse : List Stmt} {f fa fb fc : Env' → Hh → Rs D} {t : Env' → Hh → Rs Bool} {k u : Env' → Hh → Sr} {pos : Pos}
/-! ### blocks -/
def sNil : Env' → Hh → Sr := fun de h => .nx de h
def sSeq (k u : Env' → Hh → Sr) : Env' → Hh → Sr := fun de h => match k de h with
  | .nx de1 h1 => u de1 h1
  | r => r
theorem dss_nil : DSs g X W [] sNil := ⟨fun _ => PSs.imp pss_nil fun Ds sg H ⟨rho, de, h, S, E, A⟩ => A rho H sg S (Ext.refl _ _) E⟩
theorem dss_cons (h1 : DS g X W st k) (h2 : DSs g X W rest u) : DSs g X W (st :: rest) (sSeq k u) := ⟨fun cx => PSs.imp (pss_cons (h1.ps cx) (h2.pss cx)) fun Ds sg H ⟨rho, de, h, S, E, A⟩ => by
  refine ⟨rho, de, h, S, E, ?_⟩
  unfold sSeq at A
  cases q : k de h with
  | nx d h' =>
    rw [q] at A
    exact fun r1 H' sg' S' e' E' => ⟨r1, d, h', S', E', AftS.later A e'⟩
  | rt d h' => rw [q] at A; exact A
  | bk d h' => rw [q] at A; exact A
  | ct d h' => rw [q] at A; exact A
  | ex x d h' => rw [q] at A; exact A
  | no => rw [q] at A; exact A⟩
theorem dss_one (h1 : DS g X W st k) : DSs g X W [st] k := ⟨fun cx => pss_one (h1.ps cx)⟩
theorem ds_pass : DS g X W (.Pass pos) sNil := ⟨fun _ => PS.imp ps_pass fun Ds sg H ⟨rho, de, h, S, E, A⟩ => A rho H sg S (Ext.refl _ _) E⟩
def sBrk : Env' → Hh → Sr := fun de h => .bk de h
def sCnt : Env' → Hh → Sr := fun de h => .ct de h
theorem ds_break : DS g X W (.Break pos) sBrk := ⟨fun _ => PS.imp ps_break fun Ds sg H ⟨rho, de, h, S, E, A⟩ => A rho H sg S (Ext.refl _ _) E⟩
theorem ds_continue : DS g X W (.Continue pos) sCnt := ⟨fun _ => PS.imp ps_continue fun Ds sg H ⟨rho, de, h, S, E, A⟩ => A rho H sg S (Ext.refl _ _) E⟩
/-- code that is never come to -/
def sNo : Env' → Hh → Sr := fun _ _ => .no
theorem ds_no : DS g X W st sNo := ⟨fun _ => PS.imp ps_never fun Ds sg H ⟨_, _, _, _, _, A⟩ => A⟩
theorem dss_no : DSs g X W rest sNo := ⟨fun _ => PSs.imp pss_never fun Ds sg H ⟨_, _, _, _, _, A⟩ => A⟩
/-! ### small statements -/
def sSet (i : Nat) (f : Env' → Hh → Rs D) : Env' → Hh → Sr := fun de h => (f de h).st de fun d h1 => .nx (de.set i (some d)) h1
theorem ds_set (i : Nat) {x : Str} {pos' : Pos} (he : DE g X W e f) (hi : X.N[i]? = some x := by rfl) (hx : Loc X.env.scope x := by first | exact Or.inl rfl | exact Or.inr rfl) (hs : swapsWith e (some (.Name x pos')) pos.line X.env = pure false := by rfl)
    (hf : X.fn x = true ∨ X.env.scope.names.lookup x = some .local := by first | exact .inl rfl | exact .inr rfl | assumption) : DS g X W (.Assign [.Name x pos'] e pos) (sSet i f) := ⟨fun cx => PS.imp (ps_set cx.nd hi hx (he.pe cx) hs hf) fun Ds sg H ⟨rho, de, h, S, E, A⟩ => by
  refine okE.st S E A fun rho1 H1 d v h1 S1 e1 E1 r1 A1 => ?_
  exact A1 rho1 H1 _ S1 (Ext.refl _ _) (E1.set r1)⟩
def sExpr (f : Env' → Hh → Rs D) : Env' → Hh → Sr := fun de h => (f de h).st de fun _ h1 => .nx de h1
theorem ds_expr (he : DE g X W e f) (hs : swapsWith e none pos.line X.env = pure false := by rfl) : DS g X W (.Expr e pos) (sExpr f) := ⟨fun cx => PS.imp (ps_expr (he.pe cx) hs) fun Ds sg H ⟨rho, de, h, S, E, A⟩ => by
  refine okE.st S E A fun rho1 H1 d v h1 S1 e1 E1 r1 A1 => ?_
  exact A1 rho1 H1 _ S1 (Ext.refl _ _) E1⟩
def sRet (f : Env' → Hh → Rs D) : Env' → Hh → Sr := fun de h => (f de h).st de fun d h1 => .rt d h1
theorem ds_ret (he : DE g X W e f) : DS g X W (.Return (some e) pos) (sRet f) := ⟨fun cx => PS.imp (ps_ret (he.pe cx)) fun Ds sg H ⟨rho, de, h, S, E, A⟩ => by
  refine okE.st S E A fun rho1 H1 d v h1 S1 e1 E1 r1 A1 => ?_
  exact A1 rho1 H1 _ S1 (Ext.refl _ _) r1⟩
def sRetN : Env' → Hh → Sr := fun _ h => .rt .non h
theorem ds_retN : DS g X W (.Return none pos) sRetN := ⟨fun _ => PS.imp ps_retN fun Ds sg H ⟨rho, de, h, S, E, A⟩ => A rho H _ S (Ext.refl _ _) Rp.non'⟩
def sIf (t : Env' → Hh → Rs Bool) (k u : Env' → Hh → Sr) : Env' → Hh → Sr := fun de h => (t de h).st de fun p h1 => match p with
  | true => k de h1
  | false => u de h1
theorem ds_if (hc : DT g X W c t) (ha : DSs g X W body k) (hb : DSs g X W orelse u) : DS g X W (.If c body orelse pos) (sIf t k u) := ⟨fun cx => PS.imp (ps_if (hc.pt cx) (ha.pss cx) (hb.pss cx)) fun Ds sg H ⟨rho, de, h, S, E, A⟩ => by
  refine okT.st S E A fun rho1 H1 p h1 S1 e1 E1 A1 => ?_
  cases p with
  | true => exact iteT ⟨rho1, de, h1, S1, E1, A1⟩
  | false => exact iteF ⟨rho1, de, h1, S1, E1, A1⟩⟩
/-! ### targets -/
/-- a store: what becomes of the names and the heap -/
abbrev GD := D → Env' → Hh → Option (Env' × Hh)
/-- the slots but those are as they were -/
structure SlotEq (is : List Nat) (sg sg' : St) : Prop where
  len : sg'.length = sg.length
  out : ∀ j, j ∉ is → sg'[j]? = sg[j]?
theorem SlotEq.refl (is : List Nat) (sg : St) : SlotEq is sg sg := ⟨rfl, fun _ _ => rfl⟩
theorem SlotEq.trans {is js : List Nat} {a b c : St} (x : SlotEq is a b) (y : SlotEq js b c) : SlotEq (is ++ js) a c :=
  ⟨y.len.trans x.len, fun j hj => (y.out j fun z => hj (List.mem_append_right _ z)).trans (x.out j fun z => hj (List.mem_append_left _ z))⟩
theorem wipe_in {sg : St} {i : Nat} : ∀ {vs : List Nat}, i ∈ vs → i < sg.length → (L2.wipe sg vs)[i]? = some none
  | v :: vs, h, hl => by
    unfold L2.wipe
    by_cases q : v = i
    · subst q
      rw [List.getElem?_set_self (by rw [L2.wipe_length]; exact hl)]
    · rw [List.getElem?_set_ne q]
      rcases List.mem_cons.mp h with z | z
      · exact absurd z.symm q
      · exact wipe_in z hl
  | [], h, _ => by cases h
theorem SlotEq.wipe {is vs : List Nat} {a b : St} (x : SlotEq is (L2.wipe a vs) b) (hs : ∀ i ∈ is, i ∈ vs) : L2.wipe b vs = L2.wipe a vs := by
  have hl : b.length = a.length := by rw [x.len, L2.wipe_length]
  refine List.ext_getElem? fun j => ?_
  by_cases q : j ∈ vs
  · by_cases z : j < a.length
    · rw [wipe_in q z, wipe_in q (by rw [hl]; exact z)]
    · rw [List.getElem?_eq_none (by rw [L2.wipe_length, hl]; omega), List.getElem?_eq_none (by rw [L2.wipe_length]; omega)]
  · rw [L2.wipe_out q, L2.wipe_out q, x.out j (fun z => q (hs j z)), L2.wipe_out q]
def okG (g : G) (F : GD) (is : List Nat) : TG := fun v sg H Q => ∃ rho d de h de' h', Sim g rho h H ∧ EnvR g rho H de sg ∧ Rp g rho H d v ∧ F d de h = some (de', h') ∧ ∀ rho' H' sg', Sim g rho' h' H' → Ext rho H rho' H' → EnvR g rho' H' de' sg' → SlotEq is sg sg' → Q sg' H'
def okGs (g : G) (F : List D → Env' → Hh → Option (Env' × Hh)) (is : List Nat) : TGs := fun vs sg H Q => ∃ rho ds de h de' h', Sim g rho h H ∧ EnvR g rho H de sg ∧ RpL g rho H ds vs ∧ F ds de h = some (de', h') ∧ ∀ rho' H' sg', Sim g rho' h' H' → Ext rho H rho' H' → EnvR g rho' H' de' sg' → SlotEq is sg sg' → Q sg' H'
structure DG (g : G) (X : Cx) (W : WX) (tg : Expr) (F : GD) (is : List Nat) : Prop where
  pg : Cok g X W → PG X tg (okG g F is)
structure DGs (g : G) (X : Cx) (W : WX) (ts : List Expr) (F : List D → Env' → Hh → Option (Env' × Hh)) (is : List Nat) : Prop where
  pgs : Cok g X W → PGs X ts (okGs g F is)
theorem PG.imp {t t' : TG} (p : PG X tg t) (k : ∀ v sg H Q, t' v sg H Q → t v sg H Q) : PG X tg t' := ⟨fun pins s sg H v u Q I r h => p.run pins s sg H v u Q I r (k v sg H Q h)⟩
theorem PGs.imp {ts : List Expr} {t t' : TGs} (p : PGs X ts t) (k : ∀ v sg H Q, t' v sg H Q → t v sg H Q) : PGs X ts t' := ⟨fun pins s sg H v u Q I r h => p.run pins s sg H v u Q I r (k v sg H Q h)⟩
def gN (i : Nat) : GD := fun d de h => some (de.set i (some d), h)
theorem dg_name (i : Nat) {x : Str} (hi : X.N[i]? = some x := by rfl) (hx : Loc X.env.scope x := by first | exact Or.inl rfl | exact Or.inr rfl) (hf : X.fn x = true ∨ X.env.scope.names.lookup x = some .local := by first | exact .inl rfl | exact .inr rfl | assumption) : DG g X W (.Name x pos) (gN i) [i] :=
  ⟨fun cx => PG.imp (pg_name cx.nd hi hx hf) fun v sg H Q ⟨rho, d, de, h, de', h', S, E, r, q, A⟩ => by
    cases q
    refine A rho H _ S (Ext.refl _ _) (E.set r) ⟨by rw [List.length_set], fun j hj => List.getElem?_set_ne fun z => hj ?_⟩
    rw [z]
    exact List.mem_singleton.mpr rfl⟩
def gsNil : List D → Env' → Hh → Option (Env' × Hh) := fun ds de h => match ds with
  | [] => some (de, h)
  | _ => none
def gsCons (F : GD) (Fs : List D → Env' → Hh → Option (Env' × Hh)) : List D → Env' → Hh → Option (Env' × Hh) := fun ds de h => match ds with
  | d :: r => (F d de h).bind fun p => Fs r p.1 p.2
  | [] => none
theorem dgs_nil : DGs g X W [] gsNil [] := ⟨fun _ => PGs.imp pgs_nil fun vs sg H Q ⟨rho, ds, de, h, de', h', S, E, r, q, A⟩ => by
  cases ds with
  | nil =>
    cases q
    exact ⟨r.inv0, A rho H sg S (Ext.refl _ _) E (SlotEq.refl _ _)⟩
  | cons d r => cases q⟩
theorem dgs_cons {F : GD} {Fs : List D → Env' → Hh → Option (Env' × Hh)} {is js : List Nat} (h1 : DG g X W e F is) (h2 : DGs g X W es Fs js) (hs : (assignEach (e :: es) X.env).map (·.2) = assign e X.env :: (assignEach es X.env).map (·.2) := by rfl) :
    DGs g X W (e :: es) (gsCons F Fs) (is ++ js) := ⟨fun cx => PGs.imp (pgs_cons (h1.pg cx) (h2.pgs cx) hs) fun vs sg H Q ⟨rho, ds, de, h, de', h', S, E, r, q, A⟩ => by
  cases ds with
  | nil => cases q
  | cons d ds =>
    obtain ⟨v, w, rfl, r1, r2⟩ := r.inv
    have q' : (F d de h).bind (fun p => Fs ds p.1 p.2) = some (de', h') := q
    cases q1 : F d de h with
    | none => rw [q1] at q'; cases q'
    | some p =>
      obtain ⟨de1, h1⟩ := p
      rw [q1] at q'
      refine ⟨v, w, rfl, rho, d, de, h, de1, h1, S, E, r1, q1, fun rho1 H1 sg1 S1 e1 E1 z1 => ?_⟩
      exact ⟨rho1, ds, de1, h1, de', h', S1, E1, r2.ext e1, q', fun rho2 H2 sg2 S2 e2 E2 z2 => A rho2 H2 sg2 S2 (e1.trans e2) E2 (z1.trans z2)⟩⟩
def gT (n : Nat) (Fs : List D → Env' → Hh → Option (Env' × Hh)) : GD := fun d de h => match d with
  | .tup xs => if xs.length = n then Fs xs de h else none
  | d => match lstOf h d with
    | some xs => if xs.length = n then Fs xs de h else none
    | none => none
theorem pg_or {t t' : TG} (p : PG X tg t) (p' : PG X tg t') : PG X tg fun v sg H Q => t v sg H Q ∨ t' v sg H Q := ⟨fun pins s sg H v u Q I r h => by
  rcases h with h | h
  · exact p.run pins s sg H v u Q I r h
  · exact p'.run pins s sg H v u Q I r h⟩
theorem dg_tup {k : Nat} {Fs : List D → Env' → Hh → Option (Env' × Hh)} {is : List Nat} (n : Nat) (h : DGs g X W es Fs is) (hn : (assignEach es X.env).length = n := by rfl) (hst : (assignEach es X.env).findIdx? (·.1) = none := by rfl) : DG g X W (.Tuple es k pos) (gT n Fs) is :=
  ⟨fun cx => PG.imp (pg_or (pg_tup cx.calm (h.pgs cx) hn hst) (pg_unl cx.calm (h.pgs cx) hn hst)) fun v sg H Q ⟨rho, d, de, h, de', h', S, E, r, q, A⟩ => by
    have lists : ∀ xs, lstOf h d = some xs → (if xs.length = n then Fs xs de h else none) = some (de', h') → gUnl X.K n (okGs g Fs is) v sg H Q := fun xs e q' => by
      by_cases z : xs.length = n
      · rw [if_pos z] at q'
        obtain ⟨a, vs, rfl, t, l⟩ := lst_ok S r e
        exact ⟨a, vs, rfl, .inl (.inl t), by rw [← l.length]; exact z, rho, xs, de, h, de', h', S, E, l, q', A⟩
      · rw [if_neg z] at q'
        cases q'
    cases d with
    | tup xs =>
      have q' : (if xs.length = n then Fs xs de h else none) = some (de', h') := q
      by_cases z : xs.length = n
      · rw [if_pos z] at q'
        obtain ⟨a, vs, rfl, t, l⟩ := r.tup_
        exact .inl ⟨a, vs, rfl, by rw [← cx.K]; exact .inl (.inl t.1), by rw [← l.length]; exact z, rho, xs, de, h, de', h', S, E, l, q', A⟩
      · rw [if_neg z] at q'
        cases q'
    | lst xs => exact .inr (lists xs rfl q)
    | ref i =>
      cases e : lstOf h (.ref i) with
      | none => simp only [gT, e] at q; cases q
      | some xs => simp only [gT, e] at q; exact .inr (lists xs e q)
    | _ => cases q⟩
def sAsg (f : Env' → Hh → Rs D) (F : GD) : Env' → Hh → Sr := fun de h => (f de h).st de fun d h1 => match F d de h1 with
  | some (de', h') => .nx de' h'
  | none => .no
theorem ds_asg {F : GD} {is : List Nat} (he : DE g X W e f) (hg : DG g X W tg F is) (hs : swapsWithSole [tg] e pos.line X.env = pure false := by rfl) (hw : swappedStores [tg] e X.env = pure none := by rfl) (h1 : (assignEach [tg] X.env).map (·.2) = [assign tg X.env] := by rfl) :
    DS g X W (.Assign [tg] e pos) (sAsg f F) := ⟨fun cx => PS.imp (ps_asg (he.pe cx) (hg.pg cx) hs hw h1) fun Ds sg H ⟨rho, de, h, S, E, A⟩ => by
  refine okE.st S E A fun rho1 H1 d v h1 S1 e1 E1 r1 A1 => ?_
  cases q : F d de h1 with
  | none => rw [q] at A1; exact False.elim A1
  | some p =>
    obtain ⟨de', h'⟩ := p
    rw [q] at A1
    exact ⟨rho1, d, de, h1, de', h', S1, E1, r1, q, fun rho' H' sg' S' e' E' _ => A1 rho' H' sg' S' e' E'⟩⟩
/-- a, b = x, y of plain names -/
def sPar (i j : Nat) (fs : Env' → Hh → Rs (List D)) : Env' → Hh → Sr := fun de h => (fs de h).st de fun ds h1 => match ds with
  | [x, y] => .nx ((de.set i (some x)).set j (some y)) h1
  | _ => .no
theorem ds_par (i j : Nat) {x y : Str} {fs : Env' → Hh → Rs (List D)} {px py pt : Pos} {kt k2 pt2} (ha : DA g X W [a, b] fs) (hi : X.N[i]? = some x := by rfl) (hj : X.N[j]? = some y := by rfl) (hij : i ≠ j := by decide)
    (hx : X.env.scope.names.lookup x = some .local := by rfl) (hy : X.env.scope.names.lookup y = some .local := by rfl)
    (hw : swappedStores [.Tuple [.Name x px, .Name y py] kt pt] (.Tuple [a, b] k2 pt2) X.env = pure (some [x, y]) := by rfl) (hs : swapsWithSole [.Tuple [.Name x px, .Name y py] kt pt] (.Tuple [a, b] k2 pt2) pos.line X.env = pure false := by rfl) :
    DS g X W (.Assign [.Tuple [.Name x px, .Name y py] kt pt] (.Tuple [a, b] k2 pt2) pos) (sPar i j fs) := ⟨fun cx => PS.imp (ps_par cx.calm cx.nd hi hj hij hx hy (ha.pa cx) hw hs) fun Ds sg H ⟨rho, de, h, S, E, A⟩ => by
  refine okL.st S E A fun rho1 H1 ds vs h1 S1 e1 E1 r1 A1 => ?_
  split at A1
  · rename_i x y
    obtain ⟨v, w, rfl, k1, k2⟩ := r1.inv
    obtain ⟨v2, w2, rfl, k3, k4⟩ := k2.inv
    rw [k4.inv0]
    exact ⟨v, v2, rfl, A1 rho1 H1 _ S1 (Ext.refl _ _) ((E1.set k1).set k3)⟩
  · exact False.elim A1⟩
def sPar3 (i j l : Nat) (fs : Env' → Hh → Rs (List D)) : Env' → Hh → Sr := fun de h => (fs de h).st de fun ds h1 => match ds with
  | [x, y, z] => .nx (((de.set i (some x)).set j (some y)).set l (some z)) h1
  | _ => .no
theorem ds_par3 (i j l : Nat) {x y z : Str} {fs : Env' → Hh → Rs (List D)} {px py pz pt : Pos} {kt k2 pt2} (ha : DA g X W [a, b, c] fs) (hi : X.N[i]? = some x := by rfl) (hj : X.N[j]? = some y := by rfl) (hl : X.N[l]? = some z := by rfl) (hij : i ≠ j := by decide) (hil : i ≠ l := by decide) (hjl : j ≠ l := by decide)
    (hx : X.env.scope.names.lookup x = some .local := by rfl) (hy : X.env.scope.names.lookup y = some .local := by rfl) (hz : X.env.scope.names.lookup z = some .local := by rfl)
    (hw : swappedStores [.Tuple [.Name x px, .Name y py, .Name z pz] kt pt] (.Tuple [a, b, c] k2 pt2) X.env = pure (some [x, y, z]) := by rfl) (hs : swapsWithSole [.Tuple [.Name x px, .Name y py, .Name z pz] kt pt] (.Tuple [a, b, c] k2 pt2) pos.line X.env = pure false := by rfl) :
    DS g X W (.Assign [.Tuple [.Name x px, .Name y py, .Name z pz] kt pt] (.Tuple [a, b, c] k2 pt2) pos) (sPar3 i j l fs) := ⟨fun cx => PS.imp (ps_par3 cx.calm cx.nd hi hj hl hij hil hjl hx hy hz (ha.pa cx) hw hs) fun Ds sg H ⟨rho, de, h, S, E, A⟩ => by
  refine okL.st S E A fun rho1 H1 ds vs h1 S1 e1 E1 r1 A1 => ?_
  split at A1
  · rename_i x y z
    obtain ⟨v, w, rfl, k1, k2⟩ := r1.inv
    obtain ⟨v2, w2, rfl, k3, k4⟩ := k2.inv
    obtain ⟨v3, w3, rfl, k5, k6⟩ := k4.inv
    rw [k6.inv0]
    exact ⟨v, v2, v3, rfl, A1 rho1 H1 _ S1 (Ext.refl _ _) (((E1.set k1).set k3).set k5)⟩
  · exact False.elim A1⟩
end
end DL

set_option maxHeartbeats 1000000
/-! Loops; defs and calls. -/
namespace DL
open PySem PySem.Spec PyProof.Rows L2
section
variable {g : G} {X : Cx} {W : WX} {e a b c tg : Expr} {es : List Expr} {st : Stmt} {rest body orelse : List Stmt} {f fa fb fc : Env' → Hh → Rs D} {t : Env' → Hh → Rs Bool} {k u : Env' → Hh → Sr} {pos : Pos}
/-! ### while -/
/-- at most so many turns; the slots ks are forgotten behind each -/
def whileS (t : Env' → Hh → Rs Bool) (k : Env' → Hh → Sr) (ks : List Nat) : Nat → Env' → Hh → Sr
  | 0, _, _ => .no
  | n + 1, de, h => (t de h).st de fun p h1 => match p with
    | false => .nx de h1
    | true => match k de h1 with
      | .nx de2 h2 => whileS t k ks n (kill de2 ks) h2
      | .ct de2 h2 => whileS t k ks n (kill de2 ks) h2
      | .bk de2 h2 => .nx de2 h2
      | r => r
theorem ds_while (n : Nat) (ks : List Nat) (hc : DT g X W c t) (hb : DSs g X W body k) : DS g X W (.While c body [] pos) (whileS t k ks n) := ⟨fun cx => PS.imp (ps_while cx.po (hc.pt cx) (hb.pss cx)) fun Ds sg H ⟨rho, de, h, S, E, A⟩ => by
  refine ⟨fun m sg' H' => ∃ rho' de' h', Sim g rho' h' H' ∧ EnvR g rho' H' de' sg' ∧ AftS g W rho' H' Ds (whileS t k ks m de' h'), ⟨n, rho, de, h, S, E, A⟩, ?_⟩
  rintro m sg1 H1 ⟨rho1, de1, h1, S1, E1, A1⟩
  cases m with
  | zero => exact False.elim A1
  | succ m =>
    refine okT.st S1 E1 (show AftS g W rho1 H1 Ds ((t de1 h1).st de1 fun p h1 => match p with
      | false => .nx de1 h1
      | true => match k de1 h1 with
        | .nx de2 h2 => whileS t k ks m (kill de2 ks) h2
        | .ct de2 h2 => whileS t k ks m (kill de2 ks) h2
        | .bk de2 h2 => .nx de2 h2
        | r => r) from A1) fun rho2 H2 p h2 S2 e2 E2 A2 => ?_
    cases p with
    | false => exact iteF (A2 rho2 H2 sg1 S2 (Ext.refl _ _) E2)
    | true =>
      refine iteT ?_
      refine ⟨fun sg' H' => ∃ rho' de' h', Sim g rho' h' H' ∧ EnvR g rho' H' de' sg' ∧ AftS g W rho' H' Ds (whileS t k ks m de' h'), fun sg' H' q => ⟨m, Nat.lt_succ_self m, q⟩, rho2, de1, h2, S2, E2, ?_⟩
      cases q : k de1 h2 with
      | nx d h' =>
        simp only [q] at A2
        exact fun r1 H' sg' S' e' E' => ⟨r1, kill d ks, h', S', E'.kill ks, AftS.later A2 e'⟩
      | ct d h' =>
        simp only [q] at A2
        exact fun r1 H' sg' S' e' E' => ⟨r1, kill d ks, h', S', E'.kill ks, AftS.later A2 e'⟩
      | bk d h' => simp only [q] at A2; exact A2
      | rt d h' => simp only [q] at A2; exact A2
      | ex x d h' => simp only [q] at A2; exact A2
      | no => simp only [q] at A2; exact False.elim A2⟩
/-! ### what is walked -/
/-- what is walked: the object that must stay as it is (a list of the abstract heap), the items -/
structure Src where
  live : Option (Nat × AO)
  items : List D
def Src.ok (s : Src) (h : Hh) : Prop := match s.live with
  | none => True
  | some (i, o) => h[i]? = some o
/-- an iterator of the machine gives the items -/
def Feeds (g : G) (rho : Rho) (H : Hp) (s : Src) (J : It) : Prop := s.items.length ≤ sizeLine ∧ ∀ (rho' : Rho) (h' : Hh) (H' : Hp), Sim g rho' h' H' → Ext rho H rho' H' → s.ok h' →
  (∀ i x, s.items[i]? = some x → J.go i H' ∧ ∀ v H2, J.yld i H' v H2 → Sim g rho' h' H2 ∧ Ext rho' H' rho' H2 ∧ Rp g rho' H2 x v) ∧ J.stop s.items.length H'
def okI (g : G) (W : WX) (f : Env' → Hh → Rs Src) : TI := fun sg H R => ∃ rho de h, Sim g rho h H ∧ EnvR g rho H de sg ∧ Aft g rho H (fun rho H s J => Feeds g rho H s J) (fun c d H' => W c d sg H') (f de h) R
structure DI (g : G) (X : Cx) (W : WX) (tg e : Expr) (f : Env' → Hh → Rs Src) : Prop where
  pi : Cok g X W → PI X tg e (okI g W f)
theorem PI.imp {wi wi' : TI} (p : PI X tg e wi) (k : ∀ sg H R, wi' sg H R → wi sg H R) : PI X tg e wi' := ⟨fun pins s sg H R I h => p.run pins s sg H R I (k sg H R h)⟩
open Classical in
/-- a for over items -/
noncomputable def loopS (s : Src) (G : GD) (k : Env' → Hh → Sr) (ks : List Nat) : List D → Env' → Hh → Sr
  | [], de, h => if s.ok h then .nx de h else .no
  | x :: xs, de, h => if s.ok h then (match G x de h with
    | none => .no
    | some (de1, h1) => match k de1 h1 with
      | .nx de2 h2 => loopS s G k ks xs (kill de2 ks) h2
      | .ct de2 h2 => loopS s G k ks xs (kill de2 ks) h2
      | .bk de2 h2 => .nx de2 h2
      | r => r) else .no
noncomputable def sFor (f : Env' → Hh → Rs Src) (G : GD) (k : Env' → Hh → Sr) (ks : List Nat) : Env' → Hh → Sr := fun de h => (f de h).st de fun s h1 => loopS s G k ks s.items de h1
theorem drop_cons {α : Type} {l : List α} {i : Nat} {x : α} {xs : List α} (h : l.drop i = x :: xs) : l[i]? = some x ∧ l.drop (i + 1) = xs ∧ i < l.length := by
  have hl : i < l.length := by
    by_cases q : i < l.length
    · exact q
    · rw [List.drop_eq_nil_of_le (by omega)] at h
      cases h
  rw [List.drop_eq_getElem_cons hl] at h
  injection h with h1 h2
  exact ⟨by rw [List.getElem?_eq_getElem hl, h1], h2, hl⟩
theorem ds_for (ks : List Nat) {fi : Env' → Hh → Rs Src} {F : GD} {is : List Nat} (hi : DI g X W tg e fi) (hg : DG g X W tg F is) (hb : DSs g X W body k) (hs : ∀ x, foldedSetIterable e X.env x = pure x := by intro _; rfl) : DS g X W (.For tg e body [] pos) (sFor fi F k ks) := ⟨fun cx => PS.imp (ps_for cx.po cx.calm (hi.pi cx) (hg.pg cx) (hb.pss cx) hs) fun Ds sg H ⟨rho, de, h, S, E, A⟩ => by
  refine ⟨rho, de, h, S, E, ?_⟩
  refine Aft.st E A fun rho1 H1 s J h1 S1 e1 fd A1 => ?_
  refine ⟨fun i m sg' H' => m = s.items.length - i ∧ i ≤ s.items.length ∧ ∃ rho' de' h', Sim g rho' h' H' ∧ EnvR g rho' H' de' sg' ∧ Ext rho1 H1 rho' H' ∧ AftS g W rho' H' Ds (loopS s F k ks (s.items.drop i) de' h'), ⟨s.items.length, by simp, Nat.zero_le _, rho1, de, h1, S1, E.ext e1, Ext.refl _ _, A1⟩, ?_⟩
  rintro i m sg2 H2 ⟨rfl, hil, rho2, de2, h2, S2, E2, e2, A2⟩
  cases q : s.items.drop i with
  | nil =>
    have hi : i = s.items.length := by
      have := List.drop_eq_nil_iff.mp q
      omega
    rw [q] at A2
    unfold loopS at A2
    by_cases z : s.ok h2
    · rw [if_pos z] at A2
      subst hi
      exact .inl ⟨(fd.2 rho2 h2 H2 S2 e2 z).2, A2 rho2 H2 sg2 S2 (Ext.refl _ _) E2⟩
    · rw [if_neg z] at A2
      exact False.elim A2
  | cons x xs =>
    obtain ⟨q1, q2, q3⟩ := drop_cons q
    rw [q] at A2
    unfold loopS at A2
    by_cases z : s.ok h2
    · rw [if_pos z] at A2
      obtain ⟨go, yl⟩ := (fd.2 rho2 h2 H2 S2 e2 z).1 i x q1
      refine .inr ⟨go, fun sg' H' => ∃ rho' de' h', Sim g rho' h' H' ∧ EnvR g rho' H' de' sg' ∧ Ext rho1 H1 rho' H' ∧ AftS g W rho' H' Ds (loopS s F k ks xs de' h'), fun sg' H' z => ⟨s.items.length - (i + 1), by omega, rfl, q3, by rw [q2]; exact z⟩, fun v H3 hy => ?_⟩
      obtain ⟨S3, e3, r3⟩ := yl v H3 hy
      cases q4 : F x de2 h2 with
      | none => simp only [q4] at A2; exact False.elim A2
      | some p =>
        obtain ⟨de4, h4⟩ := p
        simp only [q4] at A2
        refine ⟨rho2, x, de2, h2, de4, h4, S3, E2.ext e3, r3, q4, fun rho4 H4 sg4 S4 e4 E4 _ => ⟨rho4, de4, h4, S4, E4, ?_⟩⟩
        have A3 := AftS.later A2 (e3.trans e4)
        have ee : Ext rho1 H1 rho4 H4 := e2.trans (e3.trans e4)
        cases q5 : k de4 h4 with
        | nx d h' =>
          simp only [q5] at A3
          exact fun r1 H' sg' S' e' E' => ⟨r1, kill d ks, h', S', E'.kill ks, ee.trans e', AftS.later A3 e'⟩
        | ct d h' =>
          simp only [q5] at A3
          exact fun r1 H' sg' S' e' E' => ⟨r1, kill d ks, h', S', E'.kill ks, ee.trans e', AftS.later A3 e'⟩
        | bk d h' => simp only [q5] at A3; exact A3
        | rt d h' => simp only [q5] at A3; exact A3
        | ex x d h' => simp only [q5] at A3; exact A3
        | no => simp only [q5] at A3; exact False.elim A3
    · rw [if_neg z] at A2
      exact False.elim A2⟩
/-! ### iterables -/
/-- the sizes of what an expression gives -/
theorem pe_sz {t : TE} (p : PE X e t) : PE X e fun sg H Q => t sg H fun x H1 => (∀ a xs, x = .ref a → (Rd H1 a (.lst xs) ∨ Rd H1 a (.tup xs)) → xs.length ≤ sizeLine) → Q x H1 := ⟨fun pins s sg H Q I h => thn (p.run pins s sg H _ I h) fun v s1 ⟨x, H1, I1, r1, q1⟩ => ⟨x, H1, I1, r1, q1 fun a xs _ hx => by
  rcases hx with hx | hx
  · exact (Inv.rdl I1 hx).1
  · obtain ⟨its, _, _, z⟩ := I1.tuple (.inl hx : SqT X.K H1 a xs)
    exact z⟩⟩
theorem pi_or {wi wi' : TI} (p : PI X tg e wi) (p' : PI X tg e wi') : PI X tg e fun sg H R => wi sg H R ∨ wi' sg H R := ⟨fun pins s sg H R I h => by
  rcases h with h | h
  · exact p.run pins s sg H R I h
  · exact p'.run pins s sg H R I h⟩
def chars (z : Str) : List D := z.cps.toList.map fun c => D.str ⟨#[c]⟩
def srcOf (h : Hh) : D → Option Src
  | .tup xs => some ⟨none, xs⟩
  | .lst xs => some ⟨none, xs⟩
  | .ref i => match h[i]? with
    | some (.lst xs) => some ⟨some (i, .lst xs), xs⟩
    | _ => none
  | .str z => if lim z.cps.size then some ⟨none, chars z⟩ else none
  | _ => none
theorem feeds_lst {rho : Rho} {H : Hp} {a : Addr} {xs : List D} {vs : List V} {K : PySem.W.Frag} (t : LstAt rho H a vs) (l : RpL g rho H xs vs) (hz : vs.length ≤ sizeLine) : Feeds g rho H ⟨none, xs⟩ (Itl K a) := by
  refine ⟨by rw [show (Src.mk none xs).items = xs from rfl, l.length]; exact hz, fun rho' h' H' S e _ => ⟨fun i x hx => ?_, ?_⟩⟩
  · have t' := t.ext e
    obtain ⟨v, hv, rv⟩ := (l.ext e).get hx
    refine ⟨⟨vs, v, .inl (.inl t'.1), hv⟩, fun u H2 ⟨e2, y⟩ => ?_⟩
    subst e2
    have hu := y vs (.inl (.inl t'.1))
    rw [hv] at hu
    cases hu
    exact ⟨S, Ext.refl _ _, rv⟩
  · have t' := t.ext e
    exact ⟨vs, .inl (.inl t'.1), Nat.le_of_eq l.length.symm⟩
theorem feeds_tup {rho : Rho} {H : Hp} {a : Addr} {xs : List D} {vs : List V} {K : PySem.W.Frag} (t : TupAt rho H a vs) (l : RpL g rho H xs vs) (hz : vs.length ≤ sizeLine) : Feeds g rho H ⟨none, xs⟩ (Itt K a) := by
  refine ⟨by rw [show (Src.mk none xs).items = xs from rfl, l.length]; exact hz, fun rho' h' H' S e _ => ⟨fun i x hx => ?_, ?_⟩⟩
  · have t' := t.ext e
    obtain ⟨v, hv, rv⟩ := (l.ext e).get hx
    refine ⟨⟨vs, v, .inl (.inl t'.1), hv⟩, fun u H2 ⟨e2, y⟩ => ?_⟩
    subst e2
    have hu := y vs (.inl (.inl t'.1))
    rw [hv] at hu
    cases hu
    exact ⟨S, Ext.refl _ _, rv⟩
  · have t' := t.ext e
    exact ⟨vs, .inl (.inl t'.1), Nat.le_of_eq l.length.symm⟩
theorem feeds_live {rho : Rho} {H : Hp} {h : Hh} {a : Addr} {j : Nat} {xs : List D} {K : PySem.W.Frag} (S0 : Sim g rho h H) (ha : rho.l[j]? = some (some a)) (hz : xs.length ≤ sizeLine) : Feeds g rho H ⟨some (j, .lst xs), xs⟩ (Itl K a) := by
  refine ⟨hz, fun rho' h' H' S e ok => ?_⟩
  have ok' : h'[j]? = some (.lst xs) := ok
  obtain ⟨a', vs, k1, k2, k3⟩ := S.obj j _ ok'
  have hj : j < rho.l.length := (List.getElem?_eq_some_iff.mp ha).1
  have ea := e.old j a' hj k1
  rw [ha] at ea
  cases ea
  refine ⟨fun i x hx => ?_, ⟨vs, .inl (.inl k2), Nat.le_of_eq k3.length.symm⟩⟩
  obtain ⟨v, hv, rv⟩ := k3.get hx
  refine ⟨⟨vs, v, .inl (.inl k2), hv⟩, fun u H2 ⟨e2, y⟩ => ?_⟩
  subst e2
  have hu := y vs (.inl (.inl k2))
  rw [hv] at hu
  cases hu
  exact ⟨S, Ext.refl _ _, rv⟩
theorem feeds_str {rho : Rho} {H : Hp} {z : Str} (hz : lim z.cps.size = true) : Feeds g rho H ⟨none, chars z⟩ (Its z) := by
  have hl : (chars z).length = z.cps.size := by unfold chars; rw [List.length_map, Array.length_toList]
  refine ⟨by rw [show (Src.mk none (chars z)).items = chars z from rfl, hl]; exact lim_le hz, fun rho' h' H' S e _ => ⟨fun i x hx => ?_, Nat.le_of_eq hl.symm⟩⟩
  have hx' : (chars z)[i]? = some x := hx
  unfold chars at hx'
  rw [List.getElem?_map] at hx'
  cases q : z.cps.toList[i]? with
  | none => rw [q] at hx'; cases hx'
  | some c =>
    rw [q] at hx'
    cases hx'
    have hi : i < z.cps.size := by
      have := (List.getElem?_eq_some_iff.mp q).1
      rw [Array.length_toList] at this
      exact this
    refine ⟨hi, fun u H2 ⟨e2, c', hc, hu⟩ => ?_⟩
    subst e2 hu
    have : c' = c := by
      rw [Array.getElem?_toList] at q
      rw [q] at hc
      exact (Option.some.inj hc).symm
    subst this
    exact ⟨S, Ext.refl _ _, Rp.str'⟩
def iVal (f : Env' → Hh → Rs D) : Env' → Hh → Rs Src := fun de h => (f de h).bd fun d h1 => ofO (srcOf h1 d) h1
theorem di_val (he : DE g X W e f) : DI g X W tg e (iVal f) := ⟨fun cx => PI.imp (pi_or (pi_list (pe_sz (he.pe cx))) (pi_or (pi_tup (pe_sz (he.pe cx))) (pi_str (he.pe cx)))) fun sg H R ⟨rho, de, h, S, E, A⟩ => by
  have A0 : Aft g rho H (fun rho H s J => Feeds g rho H s J) (fun c d H' => W c d sg H') ((f de h).bd fun d h1 => ofO (srcOf h1 d) h1) R := A
  cases q : f de h with
  | no => rw [q] at A0; exact False.elim A0
  | ex x h1 =>
    rw [q] at A0
    refine .inl ⟨rho, de, h, S, E, ?_⟩
    rw [q]
    exact A0
  | ok d h1 =>
    rw [q] at A0
    have A1 : Aft g rho H (fun rho H s J => Feeds g rho H s J) (fun c d H' => W c d sg H') (ofO (srcOf h1 d) h1) R := A0
    cases d with
    | tup xs =>
      refine .inr (.inl ⟨rho, de, h, S, E, ?_⟩)
      rw [q]
      intro rho1 H1 v S1 e1 r1 hz
      obtain ⟨a, vs, rfl, t, l⟩ := r1.tup_
      exact ⟨a, rfl, ⟨vs, .inl (.inl t.1)⟩, A1 rho1 H1 _ S1 e1 (feeds_tup t l (hz a vs rfl (.inr (.inl t.1))))⟩
    | lst xs =>
      refine .inl ⟨rho, de, h, S, E, ?_⟩
      rw [q]
      intro rho1 H1 v S1 e1 r1 hz
      unfold Rp at r1
      obtain ⟨a, vs, rfl, t, l⟩ := r1
      exact ⟨a, rfl, ⟨vs, .inl (.inl t.1)⟩, A1 rho1 H1 _ S1 e1 (feeds_lst t l (hz a vs rfl (.inl (.inl t.1))))⟩
    | ref j =>
      refine .inl ⟨rho, de, h, S, E, ?_⟩
      rw [q]
      intro rho1 H1 v S1 e1 r1 hz
      unfold srcOf at A1
      cases q2 : h1[j]? with
      | none => simp only [q2] at A1; exact False.elim A1
      | some o =>
        cases o with
        | lst xs =>
          simp only [q2] at A1
          obtain ⟨a, vs, k1, k2, k3⟩ := S1.obj j _ q2
          unfold Rp at r1
          have ev := r1.2 a k1
          subst ev
          exact ⟨a, rfl, ⟨vs, .inl (.inl k2)⟩, A1 rho1 H1 _ S1 e1 (feeds_live S1 k1 (by rw [k3.length]; exact hz a vs rfl (.inl (.inl k2))))⟩
        | _ => simp only [q2] at A1; exact False.elim A1
    | str z =>
      refine .inr (.inr ⟨rho, de, h, S, E, ?_⟩)
      rw [q]
      intro rho1 H1 v S1 e1 r1
      rw [show srcOf h1 (.str z) = (if lim z.cps.size then some ⟨none, chars z⟩ else none) from rfl] at A1
      split at A1
      · rename_i hz
        exact ⟨z, r1.str_, A1 rho1 H1 _ S1 e1 (feeds_str hz)⟩
      · exact False.elim A1
    | _ => exact False.elim A1⟩
/-- range(n) -/
def ups (lo : Int) (n : Nat) : List D := (List.range n).map fun (k : Nat) => D.int (lo + k)
theorem feeds_rng {rho : Rho} {H : Hp} {lo : Int} {n : Nat} (hz : n ≤ sizeLine) : Feeds g rho H ⟨none, ups lo n⟩ (Itr lo n) := by
  have hl : (ups lo n).length = n := by unfold ups; rw [List.length_map, List.length_range]
  refine ⟨by rw [show (Src.mk none (ups lo n)).items = ups lo n from rfl, hl]; exact hz, fun rho' h' H' S e _ => ⟨fun i x hx => ?_, Nat.le_of_eq hl.symm⟩⟩
  have hx' : (ups lo n)[i]? = some x := hx
  have hi : i < n := by rw [← hl]; exact (List.getElem?_eq_some_iff.mp hx').1
  unfold ups at hx'
  rw [List.getElem?_map, List.getElem?_range hi] at hx'
  cases hx'
  refine ⟨hi, fun u H2 ⟨e2, hu⟩ => ?_⟩
  subst e2 hu
  exact ⟨S, Ext.refl _ _, Rp.int'⟩
def iRng1 (fs : Env' → Hh → Rs (List D)) : Env' → Hh → Rs Src := fun de h => (fs de h).bd fun ds h1 => match ds with
  | [.int j] => if lim j.toNat && decide (-4611686018427387904 ≤ j) then .ok ⟨none, ups 0 j.toNat⟩ h1 else .no
  | _ => .no
def iRng2 (fs : Env' → Hh → Rs (List D)) : Env' → Hh → Rs Src := fun de h => (fs de h).bd fun ds h1 => match ds with
  | [.int i, .int j] => if lim (j - i).toNat && decide (-4611686018427387904 ≤ i ∧ i < 4611686018427387904 ∧ -4611686018427387904 ≤ j ∧ j < 4611686018427387904) then .ok ⟨none, ups i (j - i).toNat⟩ h1 else .no
  | _ => .no
theorem di_range1 {fs : Env' → Hh → Rs (List D)} {p : Pos} (ha : DA g X W [a] fs) (hg : Gl X "range" := by rfl) (hs : starEach [a] X.env = [(false, eval a X.env)] := by rfl) : DI g X W tg (.Call (.Name "range" p) [a] [] pos) (iRng1 fs) :=
  ⟨fun cx => PI.imp (pi_range1 hg (cx.bl "range" (by decide +kernel)) (ha.pa cx) hs) fun sg H R ⟨rho, de, h, S, E, A⟩ => by
    refine okL.bd S E A fun rho1 H1 ds vs h1 S1 e1 E1 r1 A1 => ?_
    split at A1
    · rename_i j
      split at A1
      · rename_i hz
        obtain ⟨z1, z2⟩ := Bool.and_eq_true_iff.mp hz
        have z1' := lim_le z1
        have z2' := of_decide_eq_true z2
        obtain ⟨v, w, rfl, k1, k2⟩ := r1.inv
        rw [k2.inv0, k1.int_]
        have : sizeLine = 16777216 := rfl
        exact ⟨j, rfl, by omega, by omega, A1 rho1 H1 _ S1 (Ext.refl _ _) (feeds_rng (lim_le z1))⟩
      · exact False.elim A1
    · exact False.elim A1⟩
theorem di_range2 {fs : Env' → Hh → Rs (List D)} {p : Pos} (ha : DA g X W [a, b] fs) (hg : Gl X "range" := by rfl) (hs : starEach [a, b] X.env = [(false, eval a X.env), (false, eval b X.env)] := by rfl) (hs2 : starEach [b] X.env = [(false, eval b X.env)] := by rfl) : DI g X W tg (.Call (.Name "range" p) [a, b] [] pos) (iRng2 fs) :=
  ⟨fun cx => PI.imp (pi_range2 hg (cx.bl "range" (by decide +kernel)) (ha.pa cx) hs hs2) fun sg H R ⟨rho, de, h, S, E, A⟩ => by
    refine okL.bd S E A fun rho1 H1 ds vs h1 S1 e1 E1 r1 A1 => ?_
    split at A1
    · rename_i i j
      split at A1
      · rename_i hz
        obtain ⟨z1, z2⟩ := Bool.and_eq_true_iff.mp hz
        have z2' := of_decide_eq_true z2
        obtain ⟨v, w, rfl, k1, k2⟩ := r1.inv
        obtain ⟨v2, w2, rfl, k3, k4⟩ := k2.inv
        rw [k4.inv0, k1.int_, k3.int_]
        exact ⟨i, j, rfl, ⟨z2'.1, z2'.2.1, z2'.2.2.1, z2'.2.2.2⟩, A1 rho1 H1 _ S1 (Ext.refl _ _) (feeds_rng (lim_le z1))⟩
      · exact False.elim A1
    · exact False.elim A1⟩
end
end DL

set_option maxHeartbeats 1000000
/-! Comprehensions. -/
namespace DL
open PySem PySem.Spec PyProof.Rows L2
section
variable {g : G} {X : Cx} {W : WX} {e a b c tg iter elt kx : Expr} {ifs : List Expr} {f fa fk : Env' → Hh → Rs D} {t : Env' → Hh → Rs Bool} {pos : Pos} {scope : Scope} {own : List (Str × Nat)}
def nW : WX := fun _ _ _ _ => False
theorem Cok.blk (cx : Cok g X W) {s : Shared} {H : Hp} {scope : Scope} {cenv : Env} {fp : List Addr} : Cok g (X.blk s H scope cenv fp) nW :=
  ⟨cx.K, cx.calm, cx.room, fun _ _ ⟨_, _, _, _, _, _, _, _, _, _, _, _, _, _, _, _, w⟩ => w.elim, cx.bl, cx.nd, PassesOwn.never, fun _ _ _ _ _ h => h, cx.gd⟩
structure DTs (g : G) (X : Cx) (W : WX) (ifs : List Expr) (t : Env' → Hh → Rs Bool) : Prop where
  pt : Cok g X W → PTs X ifs (okT g W t)
def tYs : Env' → Hh → Rs Bool := fun _ h => .ok true h
theorem dts_nil : DTs g X W [] tYs := ⟨fun _ => ⟨fun pins s sg H Q I h => wpAny_tests_nil (by
  obtain ⟨rho, de, h, S, E, A⟩ := h
  exact ⟨H, I, A rho H true S (Ext.refl _ _) rfl⟩)⟩⟩
theorem dts_one (h : DT g X W c t) : DTs g X W [c] t := ⟨fun cx => pts_one (h.pt cx)⟩
open Classical in
noncomputable def compL (s : Src) (F : GD) (t : Env' → Hh → Rs Bool) (f : Env' → Hh → Rs D) (de : Env') : List D → List D → Hh → Rs (List D)
  | [], acc, h => if s.ok h then .ok acc h else .no
  | x :: xs, acc, h => if s.ok h then (match F x de h with
    | none => .no
    | some (de1, h1) => match t de1 h1 with
      | .ok true h2 => (match f de1 h2 with
        | .ok y h3 => compL s F t f de xs (acc ++ [y]) h3
        | _ => .no)
      | .ok false h2 => compL s F t f de xs acc h2
      | _ => .no) else .no
noncomputable def dComp (fi : Env' → Hh → Rs Src) (F : GD) (t : Env' → Hh → Rs Bool) (f : Env' → Hh → Rs D) (vs : List Nat) : Env' → Hh → Rs (List D) := fun de h => (fi de h).bd fun s h1 => compL s F t f (kill de vs) s.items [] h1
theorem comp_key {fi : Env' → Hh → Rs Src} {F : GD} {is vs : List Nat} (hv : ∀ i ∈ is, i ∈ vs) {sg : St} {H : Hp} {Q : VK} (w : okN g W (dComp fi F t f vs) sg H Q) : tLc (okI g W fi) (okG g F is) (okT g nW t) (okE g nW f) vs sg H Q := by
  obtain ⟨rho, de, h, S, E, A⟩ := w
  refine ⟨rho, de, h, S, E, A.bd fun rho1 H1 s J h1 S1 e1 fd A1 => ?_⟩
  intro P hP
  have off := S1.off hP
  have hz := fd.1
  have E1 := E.ext e1
  refine ⟨fun i m H => m = s.items.length - i ∧ i ≤ s.items.length ∧ ∃ r2 h2 acc ws, Sim g r2 h2 H ∧ Ext rho1 H1 r2 H ∧ (r2.hid P ∧ some P ∉ r2.l ∧ H P = some (.lst ws) ∧ RpL g r2 H acc ws ∧ acc.length ≤ i) ∧
    Aft g rho1 H1 (RpL g) (fun c d H' => W c d sg H') (compL s F t f (kill de vs) (s.items.drop i) acc h2) (fun vs H' => ∀ p, H' p = none → Q (.ref p) (upd H' p (.lst vs))), ⟨s.items.length, by simp, Nat.zero_le _, rho1.hide P, h1, [], [], S1.in_ hP (fun _ z => nomatch z), Ext.in_ hP, ⟨.inl rfl, off.1, upd_same, RpL.nil, Nat.zero_le _⟩, A1⟩, ?_⟩
  rintro i m H ⟨rfl, hil, r2, h2, acc, ws, S2, e2, ⟨q1, q2, q3, q4, q5⟩, A2⟩
  cases q : s.items.drop i with
  | nil =>
    have hi : i = s.items.length := by
      have := List.drop_eq_nil_iff.mp q
      omega
    rw [q] at A2
    unfold compL at A2
    by_cases z : s.ok h2
    · rw [if_pos z] at A2
      subst hi
      refine .inl ⟨(fd.2 r2 h2 H S2 e2 z).2, ?_⟩
      have := A2 (r2.show_ P) (without H P) ws (S2.go q1 q2) (e2.go hP off.2 q1) (RpL.bare (bare_go q1) _ _ q4) P without_same
      rw [upd_back q3] at this
      exact this
    · rw [if_neg z] at A2
      exact False.elim A2
  | cons x xs =>
    obtain ⟨k1, k2, k3⟩ := drop_cons q
    rw [q] at A2
    unfold compL at A2
    by_cases z : s.ok h2
    · rw [if_pos z] at A2
      obtain ⟨go, yl⟩ := (fd.2 r2 h2 H S2 e2 z).1 i x k1
      refine .inr ⟨go, fun H => ∃ r2 h2 acc ws, Sim g r2 h2 H ∧ Ext rho1 H1 r2 H ∧ (r2.hid P ∧ some P ∉ r2.l ∧ H P = some (.lst ws) ∧ RpL g r2 H acc ws ∧ acc.length ≤ i + 1) ∧
        Aft g rho1 H1 (RpL g) (fun c d H' => W c d sg H') (compL s F t f (kill de vs) xs acc h2) (fun vs H' => ∀ p, H' p = none → Q (.ref p) (upd H' p (.lst vs))), fun H' z => ⟨s.items.length - (i + 1), by omega, rfl, k3, by rw [k2]; exact z⟩, fun v H3 hy => ?_⟩
      obtain ⟨S3, e3, r3⟩ := yl v H3 hy
      cases q6 : F x (kill de vs) h2 with
      | none => simp only [q6] at A2; exact False.elim A2
      | some p =>
        obtain ⟨de4, h4⟩ := p
        simp only [q6] at A2
        refine ⟨r2, x, kill de vs, h2, de4, h4, S3, (E1.ext (e2.trans e3)).wipe vs, r3, q6, fun r4 H4 sg4 S4 e4 E4 sl => ⟨sl.wipe hv, r4, de4, h4, S4, E4, ?_⟩⟩
        have ee4 := e2.trans (e3.trans e4)
        cases q7 : t de4 h4 with
        | no => simp only [q7] at A2; exact False.elim A2
        | ex x h' => simp only [q7] at A2; exact False.elim A2
        | ok b h5 =>
          intro r5 H5 b' S5 e5 eb
          have eb' : b = b' := eb
          subst eb'
          have f5 := (e3.trans (e4.trans e5))
          cases b with
          | false =>
            simp only [q7] at A2
            rw [if_neg (by decide)]
            exact ⟨r5, h5, acc, ws, S5, ee4.trans e5, ⟨f5.hid P q1, f5.off1 P _ q2 q3, f5.keep P _ q2 q3, q4.ext f5, Nat.le_succ_of_le q5⟩, A2⟩
          | true =>
            simp only [q7] at A2
            rw [if_pos rfl]
            refine ⟨r5, de4, h5, S5, E4.ext e5, ?_⟩
            cases q8 : f de4 h5 with
            | no => simp only [q8] at A2; exact False.elim A2
            | ex x h' => simp only [q8] at A2; exact False.elim A2
            | ok y h6 =>
              simp only [q8] at A2
              intro r6 H6 v6 S6 e6 r6y
              have f6 := f5.trans e6
              have g1 := f6.hid P q1
              have g2 := f6.off1 P _ q2 q3
              have q4' := q4.ext f6
              refine ⟨ws, f6.keep P _ q2 q3, by rw [← q4.length]; omega, r6, h6, acc ++ [y], ws ++ [v6], S6.wr g1 g2 (fun _ z => nomatch z), Ext.wr hP ((ee4.trans e5).trans e6), ⟨g1, g2, upd_same, RpL.bare (bare_wr g1) _ _ (q4'.app (RpL.cons r6y RpL.nil)), ?_⟩, A2⟩
              rw [List.length_append]
              exact Nat.succ_le_succ q5
    · rw [if_neg z] at A2
      exact False.elim A2
theorem dn_lc {fi : Env' → Hh → Rs Src} {F : GD} {is : List Nat} (own : List (Str × Nat)) (hi : DI g X W tg iter fi) (ok : BlkOk X.N X.env.scope scope own)
    (hg : ∀ (s : Shared) (H : Hp) (C : Addr) (cl : List (Str × Addr)) (fp : List Addr), DG g (X.blk s H scope (compEnvC scope cl C X.env) fp) nW tg F is)
    (ht : ∀ (s : Shared) (H : Hp) (C : Addr) (cl : List (Str × Addr)) (fp : List Addr), DTs g (X.blk s H scope (compEnvC scope cl C X.env) fp) nW ifs t)
    (he : ∀ (s : Shared) (H : Hp) (C : Addr) (cl : List (Str × Addr)) (fp : List Addr), DE g (X.blk s H scope (compEnvC scope cl C X.env) fp) nW elt f)
    (hv : ∀ i ∈ is, i ∈ own.map (·.2) := by decide) (hs : ∀ x, foldedSetIterable iter X.env x = pure x := by intro _; rfl) : DN g X W (.ListComp elt [⟨tg, iter, ifs, 0⟩] scope pos) (dComp fi F t f (own.map (·.2))) :=
  ⟨fun cx => PE.imp (pe_lc cx.calm cx.nd (hi.pi cx) ok (fun s H C cl fp => (hg s H C cl fp).pg cx.blk) (fun s H C cl fp => (ht s H C cl fp).pt cx.blk) (fun s H C cl fp => (he s H C cl fp).pe cx.blk) hs) fun sg H Q w => comp_key hv w⟩
/-- name = [..] on one line -/
def sSetN (i : Nat) (al : Bool) (f : Env' → Hh → Rs (List D)) : Env' → Hh → Sr := fun de h => (f de h).st de fun xs h1 => match al with
  | false => .nx (de.set i (some (.lst xs))) h1
  | true => .nx (de.set i (some (.ref h1.length))) (h1 ++ [.lst xs])
theorem setN_key {fn : Env' → Hh → Rs (List D)} {i : Nat} {al : Bool} {Ds : Ends} {sg : St} {H : Hp} (w : okS g W (sSetN i al fn) Ds sg H) : okN g W fn sg H (fun x H1 => gName i x sg H1 Ds.nx) := by
  obtain ⟨rho, de, h, S, E, A⟩ := w
  refine ⟨rho, de, h, S, E, ?_⟩
  refine Aft.st E A fun rho1 H1 xs vs h1 S1 e1 r1 A1 p hp => ?_
  cases al with
  | false =>
    obtain ⟨s1, s2, s3⟩ := new_lst S1 hp r1
    exact A1 rho1 _ _ s1 s2 ((E.ext (e1.trans s2)).set s3)
  | true =>
    obtain ⟨s1, s2, s3⟩ := new_ref S1 hp r1
    exact A1 _ _ _ s1 s2 ((E.ext (e1.trans s2)).set s3)
theorem ds_setLc {fi : Env' → Hh → Rs Src} {F : GD} {is : List Nat} {y : Str} {py spos : Pos} (i : Nat) (al : Bool) (own : List (Str × Nat)) (hi : DI g X W tg iter fi) (ok : BlkOk X.N X.env.scope scope own)
    (hg : ∀ (s : Shared) (H : Hp) (C : Addr) (cl : List (Str × Addr)) (fp : List Addr), DG g (X.blk s H scope (compEnvC scope cl C X.env) fp) nW tg F is)
    (ht : ∀ (s : Shared) (H : Hp) (C : Addr) (cl : List (Str × Addr)) (fp : List Addr), DTs g (X.blk s H scope (compEnvC scope cl C X.env) fp) nW ifs t)
    (he : ∀ (s : Shared) (H : Hp) (C : Addr) (cl : List (Str × Addr)) (fp : List Addr), DE g (X.blk s H scope (compEnvC scope cl C X.env) fp) nW elt f)
    (hy : X.N[i]? = some y := by rfl) (hyl : X.env.scope.names.lookup y = some .local := by rfl) (hsw : swapsWith (.ListComp elt [⟨tg, iter, ifs, 0⟩] scope pos) (some (.Name y py)) spos.line X.env = pure true := by rfl)
    (hv : ∀ i ∈ is, i ∈ own.map (·.2) := by decide) (hs : ∀ x, foldedSetIterable iter X.env x = pure x := by intro _; rfl) : DS g X W (.Assign [.Name y py] (.ListComp elt [⟨tg, iter, ifs, 0⟩] scope pos) spos) (sSetN i al (dComp fi F t f (own.map (·.2)))) :=
  ⟨fun cx => PS.imp (ps_setLc cx.calm cx.nd hy hyl hsw (hi.pi cx) ok (fun s H C cl fp => (hg s H C cl fp).pg cx.blk) (fun s H C cl fp => (ht s H C cl fp).pt cx.blk) (fun s H C cl fp => (he s H C cl fp).pe cx.blk) hs) fun Ds sg H w => comp_key hv (setN_key w)⟩
/-! ### fresh dicts -/
def RM (g : G) (t : Bool) (rho : Rho) (H : Hp) (kvs : List (D × D)) (o : HO) : Prop := ∃ vs, DObj t o (kvs.map (·.1)) vs ∧ RpL g rho H (kvs.map (·.2)) vs
def okM (g : G) (W : WX) (t : Bool) (f : Env' → Hh → Rs (List (D × D))) : TE := fun sg H Q => ∃ rho de h, Sim g rho h H ∧ EnvR g rho H de sg ∧ Aft g rho H (RM g t) (fun c d H' => W c d sg H') (f de h) fun o H' => ∀ p, H' p = none → Q (.ref p) (upd H' p o)
structure DM (g : G) (X : Cx) (W : WX) (t : Bool) (e : Expr) (f : Env' → Hh → Rs (List (D × D))) : Prop where
  pe : Cok g X W → PE X e (okM g W t f)
/-- .. never written again -/
def dFzM (t : Bool) (f : Env' → Hh → Rs (List (D × D))) : Env' → Hh → Rs D := fun de h => (f de h).bd fun kvs h1 => .ok (.dct t (kvs.map (·.1)) (kvs.map (·.2))) h1
/-- .. an object of the abstract heap -/
def dAlM (t : Bool) (f : Env' → Hh → Rs (List (D × D))) : Env' → Hh → Rs D := fun de h => (f de h).bd fun kvs h1 => .ok (.ref h1.length) (h1 ++ [.dct t kvs])
theorem RM.nt {t : Bool} {rho : Rho} {H : Hp} {kvs : List (D × D)} {o : HO} (r : RM g t rho H kvs o) : ∀ vs, o ≠ .tup vs := by
  obtain ⟨vs, ⟨_, d⟩, _⟩ := r
  intro ws e
  cases t with
  | false => obtain ⟨kk, _, q⟩ := d; rw [q] at e; cases e
  | true => obtain ⟨kk, _, q⟩ := d; rw [q] at e; cases e
theorem de_fzM {tt : Bool} {fs : Env' → Hh → Rs (List (D × D))} (h : DM g X W tt e fs) : DE g X W e (dFzM tt fs) := ⟨fun cx => PE.imp (h.pe cx) fun sg H Q ⟨rho, de, h, S, E, A⟩ => ⟨rho, de, h, S, E, by
  refine A.bd fun rho1 H1 xs o h1 S1 e1 r1 A1 p hp => ?_
  obtain ⟨vs, d, r⟩ := r1
  refine A1 rho1 _ _ (S1.fresh hp) (Ext.fresh hp) ?_
  unfold Rp
  exact ⟨p, vs, rfl, ⟨o, upd_same, S1.off hp, d⟩, r.ext (Ext.fresh hp)⟩⟩⟩
theorem new_dct {rho : Rho} {H : Hp} {h : Hh} (S : Sim g rho h H) {p : Addr} {tt : Bool} {kvs : List (D × D)} {o : HO} (n : H p = none) (r : RM g tt rho H kvs o) :
    Sim g (rho.add p) (h ++ [.dct tt kvs]) (upd H p o) ∧ Ext rho H (rho.add p) (upd H p o) ∧ Rp g (rho.add p) (upd H p o) (.ref h.length) (.ref p) := by
  have gt : (rho.add p).l[h.length]? = some (some p) := by rw [← S.len]; unfold Rho.add; simp
  have nt := r.nt
  obtain ⟨vs, d, l⟩ := r
  refine ⟨S.new n ⟨p, vs, o, gt, upd_same, d, l.ext (Ext.new n)⟩ nt, Ext.new n, ?_⟩
  unfold Rp
  refine ⟨by unfold Rho.add; rw [List.length_append, S.len]; simp, fun a q => ?_⟩
  rw [gt] at q
  cases q
  rfl
theorem de_alM {tt : Bool} {fs : Env' → Hh → Rs (List (D × D))} (h : DM g X W tt e fs) : DE g X W e (dAlM tt fs) := ⟨fun cx => PE.imp (h.pe cx) fun sg H Q ⟨rho, de, h, S, E, A⟩ => ⟨rho, de, h, S, E, by
  refine A.bd fun rho1 H1 xs o h1 S1 e1 r1 A1 p hp => ?_
  obtain ⟨s1, s2, s3⟩ := new_dct S1 hp r1
  exact A1 _ _ _ s1 s2 s3⟩⟩
open Classical in
noncomputable def compM (s : Src) (F : GD) (t : Env' → Hh → Rs Bool) (fk f : Env' → Hh → Rs D) (de : Env') : List D → List (D × D) → Hh → Rs (List (D × D))
  | [], acc, h => if s.ok h then .ok acc h else .no
  | x :: xs, acc, h => if s.ok h then (match F x de h with
    | none => .no
    | some (de1, h1) => match t de1 h1 with
      | .ok true h2 => (match fk de1 h2 with
        | .ok y h3 => (match f de1 h3 with
          | .ok z h4 => (match keyOf y with
            | some c => compM s F t fk f de xs (putP keyOf acc y c z) h4
            | none => .no)
          | _ => .no)
        | _ => .no)
      | .ok false h2 => compM s F t fk f de xs acc h2
      | _ => .no) else .no
noncomputable def dCompM (fi : Env' → Hh → Rs Src) (F : GD) (t : Env' → Hh → Rs Bool) (fk f : Env' → Hh → Rs D) (vs : List Nat) : Env' → Hh → Rs (List (D × D)) := fun de h => (fi de h).bd fun s h1 => compM s F t fk f (kill de vs) s.items [] h1
theorem compM_key {fi : Env' → Hh → Rs Src} {F : GD} {is vs : List Nat} (hv : ∀ i ∈ is, i ∈ vs) {sg : St} {H : Hp} {Q : VK} (w : okM g W false (dCompM fi F t fk f vs) sg H Q) : tDc (okI g W fi) (okG g F is) (okT g nW t) (okE g nW fk) (okE g nW f) vs sg H Q := by
  obtain ⟨rho, de, h, S, E, A⟩ := w
  refine ⟨rho, de, h, S, E, A.bd fun rho1 H1 s J h1 S1 e1 fd A1 => ?_⟩
  intro P hP
  have off := S1.off hP
  have hz := fd.1
  have E1 := E.ext e1
  refine ⟨fun i m H => m = s.items.length - i ∧ i ≤ s.items.length ∧ ∃ r2 h2 acc kk ws, Sim g r2 h2 H ∧ Ext rho1 H1 r2 H ∧ (r2.hid P ∧ some P ∉ r2.l ∧ H P = some (.dK (kk.zip ws)) ∧ (keysOf (acc.map (·.1)) = some kk ∧ RpL g r2 H (acc.map (·.2)) ws) ∧ acc.length ≤ i) ∧
    Aft g rho1 H1 (RM g false) (fun c d H' => W c d sg H') (compM s F t fk f (kill de vs) (s.items.drop i) acc h2) (fun o H' => ∀ p, H' p = none → Q (.ref p) (upd H' p o)), ⟨s.items.length, by simp, Nat.zero_le _, rho1.hide P, h1, [], [], [], S1.in_ hP (fun _ z => nomatch z), Ext.in_ hP, ⟨.inl rfl, off.1, upd_same, ⟨rfl, RpL.nil⟩, Nat.zero_le _⟩, A1⟩, ?_⟩
  rintro i m H ⟨rfl, hil, r2, h2, acc, kk, ws, S2, e2, ⟨q1, q2, q3, ⟨q0, q4⟩, q5⟩, A2⟩
  cases q : s.items.drop i with
  | nil =>
    have hi : i = s.items.length := by
      have := List.drop_eq_nil_iff.mp q
      omega
    rw [q] at A2
    unfold compM at A2
    by_cases z : s.ok h2
    · rw [if_pos z] at A2
      subst hi
      refine .inl ⟨(fd.2 r2 h2 H S2 e2 z).2, ?_⟩
      have := A2 (r2.show_ P) (without H P) (.dK (kk.zip ws)) (S2.go q1 q2) (e2.go hP off.2 q1) ⟨ws, ⟨by rw [← q4.length, List.length_map, List.length_map], kk, q0, rfl⟩, RpL.bare (bare_go q1) _ _ q4⟩ P without_same
      rw [upd_back q3] at this
      exact this
    · rw [if_neg z] at A2
      exact False.elim A2
  | cons x xs =>
    obtain ⟨k1, k2, k3⟩ := drop_cons q
    rw [q] at A2
    unfold compM at A2
    by_cases z : s.ok h2
    · rw [if_pos z] at A2
      obtain ⟨go, yl⟩ := (fd.2 r2 h2 H S2 e2 z).1 i x k1
      refine .inr ⟨go, fun H => ∃ r2 h2 acc kk ws, Sim g r2 h2 H ∧ Ext rho1 H1 r2 H ∧ (r2.hid P ∧ some P ∉ r2.l ∧ H P = some (.dK (kk.zip ws)) ∧ (keysOf (acc.map (·.1)) = some kk ∧ RpL g r2 H (acc.map (·.2)) ws) ∧ acc.length ≤ i + 1) ∧
        Aft g rho1 H1 (RM g false) (fun c d H' => W c d sg H') (compM s F t fk f (kill de vs) xs acc h2) (fun o H' => ∀ p, H' p = none → Q (.ref p) (upd H' p o)), fun H' z => ⟨s.items.length - (i + 1), by omega, rfl, k3, by rw [k2]; exact z⟩, fun v H3 hy => ?_⟩
      obtain ⟨S3, e3, r3⟩ := yl v H3 hy
      cases q6 : F x (kill de vs) h2 with
      | none => simp only [q6] at A2; exact False.elim A2
      | some p =>
        obtain ⟨de4, h4⟩ := p
        simp only [q6] at A2
        refine ⟨r2, x, kill de vs, h2, de4, h4, S3, (E1.ext (e2.trans e3)).wipe vs, r3, q6, fun r4 H4 sg4 S4 e4 E4 sl => ⟨sl.wipe hv, r4, de4, h4, S4, E4, ?_⟩⟩
        have ee4 := e2.trans (e3.trans e4)
        cases q7 : t de4 h4 with
        | no => simp only [q7] at A2; exact False.elim A2
        | ex x h' => simp only [q7] at A2; exact False.elim A2
        | ok b h5 =>
          intro r5 H5 b' S5 e5 eb
          have eb' : b = b' := eb
          subst eb'
          have f5 := (e3.trans (e4.trans e5))
          cases b with
          | false =>
            simp only [q7] at A2
            rw [if_neg (by decide)]
            exact ⟨r5, h5, acc, kk, ws, S5, ee4.trans e5, ⟨f5.hid P q1, f5.off1 P _ q2 q3, f5.keep P _ q2 q3, ⟨q0, q4.ext f5⟩, Nat.le_succ_of_le q5⟩, A2⟩
          | true =>
            simp only [q7] at A2
            rw [if_pos rfl]
            refine ⟨r5, de4, h5, S5, E4.ext e5, ?_⟩
            cases q8 : fk de4 h5 with
            | no => simp only [q8] at A2; exact False.elim A2
            | ex x h' => simp only [q8] at A2; exact False.elim A2
            | ok y h6 =>
              simp only [q8] at A2
              intro r6 H6 v6 S6 e6 r6y
              refine ⟨r6, de4, h6, S6, (E4.ext e5).ext e6, ?_⟩
              cases q9 : f de4 h6 with
              | no => simp only [q9] at A2; exact False.elim A2
              | ex x h' => simp only [q9] at A2; exact False.elim A2
              | ok z h7 =>
                simp only [q9] at A2
                intro r7 H7 v7 S7 e7 r7z
                cases q10 : keyOf y with
                | none => simp only [q10] at A2; exact False.elim A2
                | some c =>
                  simp only [q10] at A2
                  have f7 := (f5.trans e6).trans e7
                  have g1 := f7.hid P q1
                  have g2 := f7.off1 P _ q2 q3
                  have q4' := q4.ext f7
                  obtain ⟨kk', ws', p1, p2, p3⟩ := put_ok q10 r7z q0 q4'
                  have hl : (kk.zip ws).length = acc.length := by
                    have l1 := allOf_len q0
                    have l2 := q4.length
                    rw [List.length_map] at l1 l2
                    rw [List.length_zip]
                    omega
                  have hl2 : (putP keyOf acc y c z).length = (kk'.zip ws').length := by
                    have l1 := allOf_len p1
                    have l2 := p2.length
                    rw [List.length_map] at l1 l2
                    rw [List.length_zip]
                    omega
                  have hl3 := length_putK (kk.zip ws) c v7
                  refine ⟨kk.zip ws, c, keyOf_v q10 r6y, f7.keep P _ q2 q3, by rw [hl]; omega, r7, h7, putP keyOf acc y c z, kk', ws', S7.wr g1 g2 (fun _ z => nomatch z), Ext.wr hP (((ee4.trans e5).trans e6).trans e7), ⟨g1, g2, by rw [upd_same, p3], ⟨p1, RpL.bare (bare_wr g1) _ _ p2⟩, ?_⟩, A2⟩
                  rw [hl2, p3]
                  omega
    · rw [if_neg z] at A2
      exact False.elim A2
theorem dm_dc {fi : Env' → Hh → Rs Src} {F : GD} {is : List Nat} (own : List (Str × Nat)) (hi : DI g X W tg iter fi) (ok : BlkOk X.N X.env.scope scope own)
    (hg : ∀ (s : Shared) (H : Hp) (C : Addr) (cl : List (Str × Addr)) (fp : List Addr), DG g (X.blk s H scope (compEnvC scope cl C X.env) fp) nW tg F is)
    (ht : ∀ (s : Shared) (H : Hp) (C : Addr) (cl : List (Str × Addr)) (fp : List Addr), DTs g (X.blk s H scope (compEnvC scope cl C X.env) fp) nW ifs t)
    (hk : ∀ (s : Shared) (H : Hp) (C : Addr) (cl : List (Str × Addr)) (fp : List Addr), DE g (X.blk s H scope (compEnvC scope cl C X.env) fp) nW kx fk)
    (he : ∀ (s : Shared) (H : Hp) (C : Addr) (cl : List (Str × Addr)) (fp : List Addr), DE g (X.blk s H scope (compEnvC scope cl C X.env) fp) nW elt f)
    (hv : ∀ i ∈ is, i ∈ own.map (·.2) := by decide) (hs : ∀ x, foldedSetIterable iter X.env x = pure x := by intro _; rfl) : DM g X W false (.DictComp kx elt [⟨tg, iter, ifs, 0⟩] scope pos) (dCompM fi F t fk f (own.map (·.2))) :=
  ⟨fun cx => PE.imp (pe_dc cx.calm cx.nd (hi.pi cx) ok (fun s H C cl fp => (hg s H C cl fp).pg cx.blk) (fun s H C cl fp => (ht s H C cl fp).pt cx.blk) (fun s H C cl fp => (hk s H C cl fp).pe cx.blk) (fun s H C cl fp => (he s H C cl fp).pe cx.blk) hs) fun sg H Q w => compM_key hv w⟩
end
end DL

set_option maxHeartbeats 1000000
/-! Defs and their calls. -/
namespace DL
open PySem PySem.Spec PyProof.Rows L2
abbrev Fn := List D → Hh → Rs D
def spD (g : G) (n : Nat) (F : Fn) : Sp := fun vs H Q E => vs.length = n ∧ ∃ rho ds h, Sim g rho h H ∧ RpL g rho H ds vs ∧ Aft g rho H (Rp g) E (F ds h) Q
def Sr.fin : Sr → Rs D
  | .nx _ h => .ok .non h
  | .rt d h => .ok d h
  | .ex x _ h => .ex x h
  | _ => .no
/-- a body run at values: m names beside the parameters -/
def runB (m : Nat) (kf : Env' → Hh → Sr) : Fn := fun ds h => (kf (ds.map some ++ List.replicate m none) h).fin
theorem RpL.getv {g : G} {rho : Rho} {H : Hp} : ∀ {ds : List D} {vs : List V} {i : Nat} {d : D}, RpL g rho H ds vs → ds[i]? = some d → ∃ v, vs[i]? = some v ∧ Rp g rho H d v := RpL.get
theorem env_start {g : G} {rho : Rho} {H : Hp} {N : List Str} {ds : List D} {vs : List V} {m : Nat} (r : RpL g rho H ds vs) (hl : N.length - vs.length = m) : EnvR g rho H (ds.map some ++ List.replicate m none) (L2.start N vs) := by
  have l := r.length
  refine ⟨?_, fun i d hd => ?_⟩
  · unfold L2.start
    rw [List.length_append, List.length_append, List.length_map, List.length_map, List.length_replicate, List.length_replicate, l, hl]
  · by_cases q : i < ds.length
    · rw [List.getElem?_append_left (by rw [List.length_map]; exact q), List.getElem?_map] at hd
      cases e : ds[i]? with
      | none => rw [e] at hd; cases hd
      | some y =>
        rw [e] at hd
        have y2 : y = d := by simpa using hd
        subst y2
        obtain ⟨v, hv, rv⟩ := r.get e
        refine ⟨v, ?_, rv⟩
        unfold L2.start
        rw [List.getElem?_append_left (by rw [List.length_map, ← l]; exact q), List.getElem?_map, hv]
        rfl
    · rw [List.getElem?_append_right (by rw [List.length_map]; omega), List.getElem?_replicate] at hd
      split at hd
      · cases hd
      · cases hd
theorem AftS.fin {g : G} {E : XK} {rho : Rho} {H : Hp} {Q : VK} {r : Sr} (A : Aft g rho H (Rp g) E r.fin Q) : AftS g (fun c d _ H' => E c d H') rho H { nx := fun _ H' => Q .non H', rt := Q } r := by
  cases r with
  | nx de h => exact fun rho' H' sg' S' e' _ => A rho' H' .non S' e' (by unfold Rp; rfl)
  | rt d h => exact A
  | ex x de h => exact fun rho' H' sg' c d S' e' _ r => A rho' H' c d S' e' r
  | bk de h => exact False.elim A
  | ct de h => exact False.elim A
  | no => exact False.elim A
section
variable {g : G} {P : Program} {w : World} {mg : Str → Option Value} {base : Heap}
theorem cok_fn {N ps : List Str} {qual : Str} {scope : Scope} {f : Addr} {cdv : Value} {A : Around} {outer : List Env} {s : Shared} {H : Hp} {E : XK} (S : FnScope N ps scope) (hbl : ∀ x : Str, bnames.contains x = true → mg x = none) {k : Nat} (hr : Room k (A.deeper (envOfC qual scope s.heap.objs.size f cdv))) (hgd : A.guards = some []) :
    Cok g (cxOf (L2.CX P w) P w g.K mg base N qual scope f cdv A outer s H E) (fun c d _ H' => E c d H') :=
  ⟨rfl, rfl, hr.mono (Nat.zero_le _), takes_of rfl rfl rfl rfl, hbl, S.nd, passes_of rfl, fun _ _ _ _ _ h => h, hgd⟩
theorem fnD {x qual : Str} {params : Arguments} {body : List Stmt} {scope : Scope} {dvs : List V} {kws : List (Str × V)} {f : Addr} {fd : FuncData} {N ps : List Str} {k m : Nat} {kf : Env' → Hh → Sr} (F : FunD g.K x qual params body scope dvs kws f fd) (S : FnScope N ps scope) (hbl : ∀ x : Str, bnames.contains x = true → mg x = none) (hm : N.length = ps.length + m)
    (hbody : ∀ (cdv : Value) (A : Around) (outer : List Env) (s : Shared) (H : Hp) (E : XK), Room k (A.deeper (envOfC qual scope s.heap.objs.size f cdv)) →
      DSs g (cxOf (L2.CX P w) P w g.K mg base N qual scope f cdv A outer s H E) (fun c d _ H' => E c d H') body kf) :
    FnOkG P w g.K mg base (L2.CX P w) (k + 1) f fd ps (spD g ps.length (runB m kf)) := by
  obtain ⟨oc, od, dV, kV, doc, pm, an, cdv, ct, osl, rfl, lk, hcd, _, _⟩ := F.ex
  exact fn_ofG lk hcd S (fun vs H Q E h => h.1) fun A outer s H vs Q E hr hgd ⟨hl, rho, ds, h, Sm, r, Af⟩ =>
    ⟨_, (hbody cdv A outer s H E hr).pss (cok_fn S hbl hr hgd), rho, ds.map some ++ List.replicate m none, h, Sm, env_start r (by rw [hm, hl]; omega), AftS.fin (r := kf (ds.map some ++ List.replicate m none) h) Af⟩
/-- a def known by its name: n written arguments -/
structure FnA (g : G) (P : Program) (w : World) (mg : Str → Option Value) (base : Heap) (k : Nat) (x : Str) (F : Fn) : Prop where
  ex : ∃ (f : Addr) (fd : FuncData) (ps : List Str) (ds : List Value) (dvs : List V) (dd : List D) (F' : Fn), FnOkG P w g.K mg base (L2.CX P w) k f fd ps (spD g ps.length F') ∧ mg x = some (.ref f) ∧ PySem.W.keepIn g.K (.ref f) = true ∧ Binds g.K fd ps ds ∧ Vals dvs ds ∧
    (∀ rho H, RpL g rho H dd dvs) ∧ ∀ es h, F es h = if es.length + dd.length = ps.length then F' (es ++ dd) h else .no
def dCall (F : Fn) (fs : Env' → Hh → Rs (List D)) : Env' → Hh → Rs D := fun de h => (fs de h).bd fun ds h1 => F ds h1
end
section
variable {g : G} {X : Cx} {W : WX} {k : Nat} {x : Str} {p pos : Pos} {e : Expr} {es : List Expr} {F : Fn} {fs : Env' → Hh → Rs (List D)}
theorem de_call (A : FnA g X.prog X.w X.mg X.base k x F) (hr : Room k X.A) (ha : DA g X W (e :: es) fs) (hg : Gl X x := by rfl) (hdb : (x == ("__debug__" : Str)) = false := by decide) (he : starEach (e :: es) X.env = (false, eval e X.env) :: starEach es X.env := by rfl) (hpl : (backTo pos (starEach es X.env)).any (·.1) = false := by rfl) :
    DE g X W (.Call (.Name x p) (e :: es) [] pos) (dCall F fs) := ⟨fun cx => by
  obtain ⟨f, fd, ps, ds, dvs, dd, F', ok, hm, kp, b, vd, rd, eq⟩ := A.ex
  rw [cx.K] at ok kp b
  refine PE.imp (pe_callG cx.gd ok hr hg hm kp b vd (passAt cx.tk) (ha.pa cx) hdb he hpl) fun sg H Q ⟨rho, de, h, S, E, A⟩ => ?_
  refine okL.bd S E A fun rho1 H1 xs vs h1 S1 e1 E1 r1 A1 => ?_
  rw [eq] at A1
  split at A1
  · rename_i hl
    refine ⟨?_, rho1, xs ++ dd, h1, S1, r1.app (rd _ _), A1⟩
    rw [List.length_append, ← r1.length, ← (rd rho1 H1).length]
    exact hl
  · exact False.elim A1⟩
end
end DL

set_option maxHeartbeats 1000000
/-! What a call leaves: new objects that nothing needs as objects are frozen, the heap is cut. -/
namespace DL
open PySem PySem.Spec PyProof.Rows L2
def mapO {α β : Type} (f : α → Option β) : List α → Option (List β)
  | [] => some []
  | d :: ds => match f d, mapO f ds with
    | some x, some xs => some (x :: xs)
    | _, _ => none
theorem mapO_cons {α β : Type} {f : α → Option β} {d : α} {ds : List α} {ys : List β} (e : mapO f (d :: ds) = some ys) : ∃ x xs, ys = x :: xs ∧ f d = some x ∧ mapO f ds = some xs := by
  unfold mapO at e
  cases q : f d with
  | none => rw [q] at e; cases e
  | some x =>
    rw [q] at e
    cases q2 : mapO f ds with
    | none => rw [q2] at e; cases e
    | some xs => rw [q2] at e; cases e; exact ⟨x, xs, rfl, rfl, rfl⟩
theorem mapO_len {α β : Type} {f : α → Option β} : ∀ {ds : List α} {ys : List β}, mapO f ds = some ys → ys.length = ds.length
  | [], ys, e => by cases e; rfl
  | d :: ds, ys, e => by
    obtain ⟨x, xs, rfl, _, e2⟩ := mapO_cons e
    rw [List.length_cons, List.length_cons, mapO_len e2]
theorem mapO_get {α β : Type} {f : α → Option β} : ∀ {ds : List α} {ys : List β} {i : Nat} {d : α}, mapO f ds = some ys → ds[i]? = some d → ∃ y, ys[i]? = some y ∧ f d = some y
  | [], ys, i, d, e, h => by simp at h
  | d :: ds, ys, i, x, e, h => by
    obtain ⟨y, xs, rfl, e1, e2⟩ := mapO_cons e
    cases i with
    | zero => exact ⟨y, rfl, by have : d = x := by simpa using h
                                rw [← this]; exact e1⟩
    | succ i =>
      obtain ⟨u, k1, k2⟩ := mapO_get (i := i) (d := x) e2 (by simpa using h)
      exact ⟨u, by simpa using k1, k2⟩
/-- d as the cut heap has it: n objects stand, those of ks come behind, others are frozen -/
def norm (h : Hh) (n : Nat) (ks : List Nat) : Nat → D → Option D
  | 0, _ => none
  | k + 1, d => match d with
    | .tup xs => (mapO (norm h n ks k) xs).map .tup
    | .lst xs => (mapO (norm h n ks k) xs).map .lst
    | .dct t ys xs => (mapO (norm h n ks k) xs).map (.dct t ys)
    | .ref i => if i < n then some (.ref i) else match ks.findIdx? (· == i) with
      | some j => some (.ref (n + j))
      | none => match h[i]? with
        | some (.lst xs) => (mapO (norm h n ks k) xs).map .lst
        | some (.dct t kvs) => (mapO (norm h n ks k) (kvs.map (·.2))).map (.dct t (kvs.map (·.1)))
        | _ => none
    | d => some d
def normF (h : Hh) (n : Nat) (ks : List Nat) (k : Nat) (fs : List (Nat × D)) : Option (List (Nat × D)) := mapO (fun p => (norm h n ks k p.2).map fun d => (p.1, d)) fs
def normO (h : Hh) (n : Nat) (ks : List Nat) (k : Nat) : AO → Option AO
  | .dead => some .dead
  | .lst xs => (mapO (norm h n ks k) xs).map .lst
  | .dct t kvs => (mapO (fun p => (norm h n ks k p.2).map fun d => (p.1, d)) kvs).map (.dct t)
  | .lock _ _ => none
  | .ins c fs => (normF h n ks k fs).map (.ins c)
mutual
/-- no object from n on -/
def D.nr (n : Nat) : D → Prop
  | .tup xs => D.nrL n xs
  | .lst xs => D.nrL n xs
  | .dct _ _ xs => D.nrL n xs
  | .ref i => i < n
  | _ => True
def D.nrL (n : Nat) : List D → Prop
  | [] => True
  | d :: ds => D.nr n d ∧ D.nrL n ds
end
def AO.nr (n : Nat) : AO → Prop
  | .dead => True
  | .lst xs => D.nrL n xs
  | .dct _ kvs => D.nrL n (kvs.map (·.2))
  | .lock _ kvs => D.nrL n (kvs.map (·.2))
  | .ins _ fs => D.nrL n (fs.map (·.2))
/-- the objects that stood at the call -/
structure Old (h h' : Hh) (os : Hh) : Prop where
  len : h.length ≤ h'.length
  at_ : ∀ i o, i < h.length → h'[i]? = some o → os[i]? = some o ∧ (h[i]? = some o ∨ o.nr h.length)
def Gc1 (h h' h2 : Hh) (ks : List Nat) : Prop := (∃ os ns, Old h h' os ∧ os.length = h.length ∧ h2 = os ++ ns ∧ mapO (fun k => (h'[k]?).bind (normO h' h.length ks 12)) ks = some ns) ∧ ks.Nodup ∧ ∀ k ∈ ks, h.length ≤ k ∧ k < h'.length
def GcTo (h : Hh) (r r2 : Rs D) : Prop := match r2 with
  | .ok d2 h2 => ∃ d h' ks, r = .ok d h' ∧ Gc1 h h' h2 ks ∧ norm h' h.length ks 12 d = some d2
  | .ex x2 h2 => ∃ x h' ks, r = .ex x h' ∧ Gc1 h h' h2 ks ∧ x.c = x2.c ∧ normF h' h.length ks 12 x.fs = some x2.fs
  | .no => True
/-- nothing new, nothing written -/
theorem Gc1.refl (h : Hh) : Gc1 h h h [] := ⟨⟨h, [], ⟨Nat.le_refl _, fun i o _ e => ⟨e, .inl e⟩⟩, rfl, by simp, rfl⟩, List.nodup_nil, fun k hk => by cases hk⟩
/-- new objects go -/
theorem Gc1.junk (h js : Hh) : Gc1 h (h ++ js) h [] := ⟨⟨h, [], ⟨by simp, fun i o hi e => by
  rw [List.getElem?_append_left hi] at e
  exact ⟨e, .inl e⟩⟩, rfl, by simp, rfl⟩, List.nodup_nil, fun k hk => by cases hk⟩
theorem Gc1.wr {h h1 : Hh} (js : Hh) (hl : h1.length = h.length) (ha : ∀ (i : Nat) (o : AO), h1[i]? = some o → h[i]? = some o ∨ AO.nr h.length o) : Gc1 h (h1 ++ js) h1 [] := ⟨⟨h1, [], ⟨by simp [hl], fun i o hi e => by
  rw [List.getElem?_append_left (by rw [hl]; exact hi)] at e
  exact ⟨e, ha i o e⟩⟩, hl, by simp, rfl⟩, List.nodup_nil, fun k hk => by cases hk⟩
section
variable {g : G} {rho r2 : Rho} {H : Hp} {h' : Hh} {n : Nat} {ks : List Nat}
/-- the new list of places -/
def gcRho (rho : Rho) (n : Nat) (ks : List Nat) : Rho := ⟨rho.l.take n ++ ks.map fun k => (rho.l[k]?).getD none, rho.hid⟩
theorem gc_get {rho : Rho} {n : Nat} {ks : List Nat} {i : Nat} {a : Addr} (hn : n ≤ rho.l.length) (h : (gcRho rho n ks).l[i]? = some (some a)) : (i < n ∧ rho.l[i]? = some (some a)) ∨ (∃ j k, i = n + j ∧ ks[j]? = some k ∧ rho.l[k]? = some (some a)) := by
  unfold gcRho at h
  by_cases q : i < n
  · rw [List.getElem?_append_left (by rw [List.length_take]; omega), List.getElem?_take_of_lt q] at h
    exact .inl ⟨q, h⟩
  · have hl : (rho.l.take n).length = n := by rw [List.length_take]; omega
    rw [List.getElem?_append_right (by rw [hl]; omega), hl, List.getElem?_map] at h
    cases e : ks[i - n]? with
    | none => rw [e] at h; cases h
    | some k =>
      rw [e] at h
      have h2 : (rho.l[k]?).getD none = some a := by simpa using h
      refine .inr ⟨i - n, k, by omega, e, ?_⟩
      cases e2 : rho.l[k]? with
      | none => rw [e2] at h2; cases h2
      | some x => rw [e2] at h2; exact congrArg some h2
theorem gc_mem {a : Addr} (hn : n ≤ rho.l.length) (h : some a ∈ (gcRho rho n ks).l) : some a ∈ rho.l := by
  obtain ⟨i, hi⟩ := List.getElem?_of_mem h
  rcases gc_get hn hi with ⟨_, e⟩ | ⟨_, _, _, _, e⟩
  · exact List.mem_of_getElem? e
  · exact List.mem_of_getElem? e
theorem gc_off {a : Addr} (hn : n ≤ rho.l.length) (h : rho.Off a) : (gcRho rho n ks).Off a := ⟨fun z => h.1 (gc_mem hn z), h.2⟩
/-- an object that is not kept stands off -/
theorem gc_gone (S : Sim g rho h' H) (hn : n ≤ rho.l.length) {i : Nat} {a : Addr} (hi : rho.l[i]? = some (some a)) (h1 : ¬ i < n) (h2 : ¬ i ∈ ks) : (gcRho rho n ks).Off a := by
  refine ⟨fun z => ?_, S.nh i a hi⟩
  obtain ⟨j, hj⟩ := List.getElem?_of_mem z
  rcases gc_get hn hj with ⟨q, e⟩ | ⟨m, k, _, q, e⟩
  · have := S.inj _ _ a e hi
    omega
  · have := S.inj _ _ a e hi
    subst this
    exact h2 (List.mem_of_getElem? q)
theorem gc_len : (gcRho rho n ks).l.length = min n rho.l.length + ks.length := by
  unfold gcRho
  rw [List.length_append, List.length_take, List.length_map]
theorem find_none {ks : List Nat} {i : Nat} (h : ks.findIdx? (· == i) = none) : i ∉ ks := fun hm => by
  rw [List.findIdx?_eq_none_iff] at h
  have := h i hm
  simp at this
theorem find_some {ks : List Nat} {i j : Nat} (h : ks.findIdx? (· == i) = some j) : ks[j]? = some i ∧ j < ks.length := by
  rw [List.findIdx?_eq_some_iff_getElem] at h
  obtain ⟨hj, h1, _⟩ := h
  have e : ks[j] = i := by simpa using h1
  exact ⟨by rw [List.getElem?_eq_getElem hj, e], hj⟩
theorem map_rp {k : Nat} {f : D → Option D} (hf : ∀ d d2 v, f d = some d2 → Rp g rho H d v → Rp g r2 H d2 v) : ∀ {ds ds2 : List D} {vs : List V}, mapO f ds = some ds2 → RpL g rho H ds vs → RpL g r2 H ds2 vs
  | [], ds2, vs, e, r => by cases e; rw [r.inv0]; exact RpL.nil
  | d :: ds, ds2, vs, e, r => by
    obtain ⟨x, xs, rfl, e1, e2⟩ := mapO_cons e
    obtain ⟨v, w, rfl, r1, r3⟩ := r.inv
    exact RpL.cons (hf _ _ _ e1 r1) (map_rp (k := k) hf e2 r3)
theorem scr_gc {ns : List Int} {v : V} (hn : n ≤ rho.l.length) (r : Rp g rho H (.scr ns) v) : Rp g (gcRho rho n ks) H (.scr ns) v := by
  unfold Rp at r ⊢
  obtain ⟨a, e, t⟩ := r
  refine ⟨a, e, ?_⟩
  rcases t with ⟨t, q⟩ | t
  · exact .inl ⟨t, gc_off hn q⟩
  · exact .inr t
theorem norm_rp (S : Sim g rho h' H) (hn : n ≤ rho.l.length) : ∀ (k : Nat) (d d2 : D) (v : V), norm h' n ks k d = some d2 → Rp g rho H d v → Rp g (gcRho rho n ks) H d2 v
  | 0, d, d2, v, e, r => by cases e
  | k + 1, d, d2, v, e, r => by
    have ih := norm_rp S hn k
    cases d with
    | tup xs =>
      have e' : (mapO (norm h' n ks k) xs).map D.tup = some d2 := e
      cases q : mapO (norm h' n ks k) xs with
      | none => rw [q] at e'; cases e'
      | some ys =>
        rw [q] at e'; cases e'
        unfold Rp at r ⊢
        obtain ⟨a, vs, e1, t, l⟩ := r
        exact ⟨a, vs, e1, ⟨t.1, gc_off hn t.2⟩, map_rp (k := k) ih q l⟩
    | lst xs =>
      have e' : (mapO (norm h' n ks k) xs).map D.lst = some d2 := e
      cases q : mapO (norm h' n ks k) xs with
      | none => rw [q] at e'; cases e'
      | some ys =>
        rw [q] at e'; cases e'
        unfold Rp at r ⊢
        obtain ⟨a, vs, e1, t, l⟩ := r
        exact ⟨a, vs, e1, ⟨t.1, gc_off hn t.2⟩, map_rp (k := k) ih q l⟩
    | dct t ys xs =>
      have e' : (mapO (norm h' n ks k) xs).map (D.dct t ys) = some d2 := e
      cases q : mapO (norm h' n ks k) xs with
      | none => rw [q] at e'; cases e'
      | some zs =>
        rw [q] at e'; cases e'
        unfold Rp at r ⊢
        obtain ⟨a, vs, e1, ⟨o, t1, t2, t3⟩, l⟩ := r
        exact ⟨a, vs, e1, ⟨o, t1, gc_off hn t2, t3⟩, map_rp (k := k) ih q l⟩
    | ref i =>
      have e' : (if i < n then some (D.ref i) else match ks.findIdx? (· == i) with
        | some j => some (.ref (n + j))
        | none => match h'[i]? with
          | some (.lst xs) => (mapO (norm h' n ks k) xs).map .lst
          | some (.dct t kvs) => (mapO (norm h' n ks k) (kvs.map (·.2))).map (.dct t (kvs.map (·.1)))
          | _ => none) = some d2 := e
      unfold Rp at r
      obtain ⟨ri, ra⟩ := r
      by_cases q : i < n
      · rw [if_pos q] at e'
        cases e'
        unfold Rp
        refine ⟨by rw [gc_len]; omega, fun a ha => ?_⟩
        rcases gc_get hn ha with ⟨_, z⟩ | ⟨j, _, z, _⟩
        · exact ra a z
        · omega
      · rw [if_neg q] at e'
        cases q2 : ks.findIdx? (· == i) with
        | some j =>
          rw [q2] at e'
          cases e'
          obtain ⟨f1, f2⟩ := find_some q2
          unfold Rp
          refine ⟨by rw [gc_len]; omega, fun a ha => ?_⟩
          rcases gc_get hn ha with ⟨z, _⟩ | ⟨j', k', z, z2, z3⟩
          · omega
          · have : j' = j := by omega
            subst this
            rw [f1] at z2
            cases z2
            exact ra a z3
        | none =>
          rw [q2] at e'
          have hni := find_none q2
          cases q3 : h'[i]? with
          | none => simp only [q3] at e'; cases e'
          | some o =>
            have ob := S.obj i o q3
            cases o with
            | lst xs =>
              simp only [q3] at e'
              cases q4 : mapO (norm h' n ks k) xs with
              | none => rw [q4] at e'; cases e'
              | some ys =>
                rw [q4] at e'; cases e'
                obtain ⟨a, vs, k1, k2, k3⟩ := ob
                unfold Rp
                exact ⟨a, vs, ra a k1, ⟨k2, gc_gone S hn k1 q hni⟩, map_rp (k := k) ih q4 k3⟩
            | dct t kvs =>
              simp only [q3] at e'
              cases q4 : mapO (norm h' n ks k) (kvs.map (·.2)) with
              | none => rw [q4] at e'; cases e'
              | some ys =>
                rw [q4] at e'; cases e'
                obtain ⟨a, vs, o, k1, k2, k3, k4⟩ := ob
                unfold Rp
                exact ⟨a, vs, ra a k1, ⟨o, k2, gc_gone S hn k1 q hni, k3⟩, map_rp (k := k) ih q4 k4⟩
            | _ => simp only [q3] at e'; cases e'
    | scr ns => cases e; exact scr_gc hn r
    | _ => cases e; unfold Rp at r ⊢; exact r
mutual
theorem nr_rp (S : Sim g rho h' H) (hn : n ≤ rho.l.length) : ∀ (d : D) (v : V), d.nr n → Rp g rho H d v → Rp g (gcRho rho n ks) H d v
  | .non, v, _, r => by unfold Rp at r ⊢; exact r
  | .bl _, v, _, r => by unfold Rp at r ⊢; exact r
  | .int _, v, _, r => by unfold Rp at r ⊢; exact r
  | .str _, v, _, r => by unfold Rp at r ⊢; exact r
  | .ty _, v, _, r => by unfold Rp at r ⊢; exact r
  | .cls _, v, _, r => by unfold Rp at r ⊢; exact r
  | .scr _, v, _, r => scr_gc hn r
  | .ref i, v, q, r => by
    unfold D.nr at q
    unfold Rp at r ⊢
    refine ⟨by rw [gc_len]; omega, fun a ha => ?_⟩
    rcases gc_get hn ha with ⟨_, z⟩ | ⟨j, _, z, _⟩
    · exact r.2 a z
    · omega
  | .tup xs, v, q, r => by
    unfold D.nr at q
    unfold Rp at r ⊢
    obtain ⟨a, vs, e1, t, l⟩ := r
    exact ⟨a, vs, e1, ⟨t.1, gc_off hn t.2⟩, nrL_rp S hn xs vs q l⟩
  | .lst xs, v, q, r => by
    unfold D.nr at q
    unfold Rp at r ⊢
    obtain ⟨a, vs, e1, t, l⟩ := r
    exact ⟨a, vs, e1, ⟨t.1, gc_off hn t.2⟩, nrL_rp S hn xs vs q l⟩
  | .dct t ys xs, v, q, r => by
    unfold D.nr at q
    unfold Rp at r ⊢
    obtain ⟨a, vs, e1, ⟨o, t1, t2, t3⟩, l⟩ := r
    exact ⟨a, vs, e1, ⟨o, t1, gc_off hn t2, t3⟩, nrL_rp S hn xs vs q l⟩
theorem nrL_rp (S : Sim g rho h' H) (hn : n ≤ rho.l.length) : ∀ (ds : List D) (vs : List V), D.nrL n ds → RpL g rho H ds vs → RpL g (gcRho rho n ks) H ds vs
  | [], vs, _, r => by rw [r.inv0]; exact RpL.nil
  | d :: ds, vs, q, r => by
    unfold D.nrL at q
    obtain ⟨v, w, rfl, r1, r2⟩ := r.inv
    exact RpL.cons (nr_rp S hn d v q.1 r1) (nrL_rp S hn ds w q.2 r2)
end
mutual
theorem nr_of : ∀ (d : D) (v : V), Rp g rho H d v → d.nr rho.l.length
  | .non, v, r => by unfold D.nr; trivial
  | .bl _, v, r => by unfold D.nr; trivial
  | .int _, v, r => by unfold D.nr; trivial
  | .str _, v, r => by unfold D.nr; trivial
  | .ty _, v, r => by unfold D.nr; trivial
  | .cls _, v, r => by unfold D.nr; trivial
  | .scr _, v, r => by unfold D.nr; trivial
  | .ref i, v, r => by unfold Rp at r; unfold D.nr; exact r.1
  | .tup xs, v, r => by
    unfold Rp at r
    unfold D.nr
    obtain ⟨a, vs, e1, t, l⟩ := r
    exact nrL_of xs vs l
  | .lst xs, v, r => by
    unfold Rp at r
    unfold D.nr
    obtain ⟨a, vs, e1, t, l⟩ := r
    exact nrL_of xs vs l
  | .dct t ys xs, v, r => by
    unfold Rp at r
    unfold D.nr
    obtain ⟨a, vs, e1, t, l⟩ := r
    exact nrL_of xs vs l
theorem nrL_of : ∀ (ds : List D) (vs : List V), RpL g rho H ds vs → D.nrL rho.l.length ds
  | [], vs, r => by unfold D.nrL; trivial
  | d :: ds, vs, r => by
    obtain ⟨v, w, rfl, r1, r2⟩ := r.inv
    unfold D.nrL
    exact ⟨nr_of d v r1, nrL_of ds w r2⟩
end
theorem nrF_of : ∀ {fs : List (Nat × D)} {ws : List (Str × V)}, RpF g rho H fs ws → D.nrL rho.l.length (fs.map (·.2))
  | [], ws, r => by unfold D.nrL; trivial
  | (f, d) :: fs, ws, r => by
    unfold RpF at r
    obtain ⟨v, w, rfl, _, r1, r2⟩ := r
    show D.nrL _ (d :: fs.map (·.2))
    unfold D.nrL
    exact ⟨nr_of d v r1, nrF_of r2⟩
theorem RO.nr {o : AO} {i : Nat} (r : RO g rho H o i) : o.nr rho.l.length := by
  cases o with
  | dead => trivial
  | lst xs =>
    obtain ⟨a, vs, h1, h2, h3⟩ := r
    exact nrL_of _ _ h3
  | dct t kvs =>
    obtain ⟨a, vs, o, h1, h2, h3, h4⟩ := r
    exact nrL_of _ _ h4
  | lock t kvs =>
    obtain ⟨a, vs, o, ob, h1, h2, h3, h4⟩ := r
    exact nrL_of _ _ h4
  | ins c fs =>
    obtain ⟨a, dx, fvs, h1, h2, h0, h3⟩ := r
    exact nrF_of h3
theorem nrF_rp (S : Sim g rho h' H) (hn : n ≤ rho.l.length) : ∀ {fs : List (Nat × D)} {ws : List (Str × V)}, D.nrL n (fs.map (·.2)) → RpF g rho H fs ws → RpF g (gcRho rho n ks) H fs ws
  | [], ws, q, r => by unfold RpF at r ⊢; exact r
  | (f, d) :: fs, ws, q, r => by
    have q' : D.nrL n (d :: fs.map (·.2)) := q
    unfold D.nrL at q'
    unfold RpF at r ⊢
    obtain ⟨v, w, e, k, r1, r2⟩ := r
    exact ⟨v, w, e, k, nr_rp S hn d v q'.1 r1, nrF_rp S hn q'.2 r2⟩
theorem normF_rp (S : Sim g rho h' H) (hn : n ≤ rho.l.length) {k : Nat} : ∀ {fs fs2 : List (Nat × D)} {ws : List (Str × V)}, normF h' n ks k fs = some fs2 → RpF g rho H fs ws → RpF g (gcRho rho n ks) H fs2 ws
  | [], fs2, ws, q, r => by
    cases q
    unfold RpF at r ⊢
    exact r
  | (f, d) :: fs, fs2, ws, q, r => by
    unfold normF at q
    obtain ⟨x, xs, rfl, e1, e2⟩ := mapO_cons q
    have e1' : (norm h' n ks k d).map (fun d => (f, d)) = some x := e1
    cases q3 : norm h' n ks k d with
    | none => rw [q3] at e1'; cases e1'
    | some d2 =>
      rw [q3] at e1'; cases e1'
      unfold RpF at r ⊢
      obtain ⟨v, w, e, kk, r1, r2⟩ := r
      exact ⟨v, w, e, kk, norm_rp S hn k d d2 v q3 r1, normF_rp S hn e2 r2⟩
theorem gc_at {i : Nat} (hn : n ≤ rho.l.length) (h : i < n) : (gcRho rho n ks).l[i]? = rho.l[i]? := by
  unfold gcRho
  rw [List.getElem?_append_left (by rw [List.length_take]; omega), List.getElem?_take_of_lt h]
theorem gc_new {j k : Nat} {a : Addr} (hn : n ≤ rho.l.length) (h : ks[j]? = some k) (e : rho.l[k]? = some (some a)) : (gcRho rho n ks).l[n + j]? = some (some a) := by
  unfold gcRho
  have hl : (rho.l.take n).length = n := by rw [List.length_take]; omega
  rw [List.getElem?_append_right (by rw [hl]; omega), hl, show n + j - n = j by omega, List.getElem?_map, h]
  show some ((rho.l[k]?).getD none) = _
  rw [e]
  rfl
theorem RO.gcOld (S : Sim g rho h' H) (hn : n ≤ rho.l.length) {o : AO} {i : Nat} (hi : i < n) (q : o.nr n) (r : RO g rho H o i) : RO g (gcRho rho n ks) H o i := by
  cases o with
  | dead => trivial
  | lst xs =>
    obtain ⟨a, vs, h1, h2, h3⟩ := r
    exact ⟨a, vs, by rw [gc_at hn hi]; exact h1, h2, nrL_rp S hn _ _ q h3⟩
  | dct t kvs =>
    obtain ⟨a, vs, o, h1, h2, h3, h4⟩ := r
    exact ⟨a, vs, o, by rw [gc_at hn hi]; exact h1, h2, h3, nrL_rp S hn _ _ q h4⟩
  | lock t kvs =>
    obtain ⟨a, vs, o, ob, h1, h2, h3, h4⟩ := r
    exact ⟨a, vs, o, ob, by rw [gc_at hn hi]; exact h1, h2, h3, nrL_rp S hn _ _ q h4⟩
  | ins c fs =>
    obtain ⟨a, dx, fvs, h1, h2, h0, h3⟩ := r
    exact ⟨a, dx, fvs, by rw [gc_at hn hi]; exact h1, h2, h0, nrF_rp S hn q h3⟩
theorem normP {k : Nat} : ∀ {kvs kvs2 : List (D × D)}, mapO (fun p : D × D => (norm h' n ks k p.2).map fun d => (p.1, d)) kvs = some kvs2 → kvs2.map (·.1) = kvs.map (·.1) ∧ mapO (norm h' n ks k) (kvs.map (·.2)) = some (kvs2.map (·.2))
  | [], kvs2, e => by cases e; exact ⟨rfl, rfl⟩
  | p :: kvs, kvs2, e => by
    obtain ⟨x, xs, rfl, e1, e2⟩ := mapO_cons e
    obtain ⟨i1, i2⟩ := normP e2
    have e1' : (norm h' n ks k p.2).map (fun d => (p.1, d)) = some x := e1
    cases q : norm h' n ks k p.2 with
    | none => rw [q] at e1'; cases e1'
    | some d =>
      rw [q] at e1'; cases e1'
      refine ⟨by rw [List.map_cons, List.map_cons, i1], ?_⟩
      rw [List.map_cons]
      unfold mapO
      rw [q, i2]
      rfl
theorem RO.gcNew (S : Sim g rho h' H) (hn : n ≤ rho.l.length) {o o2 : AO} {j k kk : Nat} (hk : ks[j]? = some k) (q : normO h' n ks kk o = some o2) (r : RO g rho H o k) : RO g (gcRho rho n ks) H o2 (n + j) := by
  cases o with
  | dead => cases q; trivial
  | lst xs =>
    obtain ⟨a, vs, h1, h2, h3⟩ := r
    have q' : (mapO (norm h' n ks kk) xs).map AO.lst = some o2 := q
    cases e : mapO (norm h' n ks kk) xs with
    | none => rw [e] at q'; cases q'
    | some ys =>
      rw [e] at q'; cases q'
      exact ⟨a, vs, gc_new hn hk h1, h2, map_rp (k := 0) (norm_rp S hn kk) e h3⟩
  | dct t kvs =>
    obtain ⟨a, vs, o, h1, h2, h3, h4⟩ := r
    have q' : (mapO (fun p : D × D => (norm h' n ks kk p.2).map fun d => (p.1, d)) kvs).map (AO.dct t) = some o2 := q
    cases e : mapO (fun p : D × D => (norm h' n ks kk p.2).map fun d => (p.1, d)) kvs with
    | none => rw [e] at q'; cases q'
    | some ys =>
      rw [e] at q'; cases q'
      obtain ⟨p1, p2⟩ := normP e
      exact ⟨a, vs, o, gc_new hn hk h1, h2, by rw [p1]; exact h3, map_rp (k := 0) (norm_rp S hn kk) p2 h4⟩
  | lock t kvs => cases q
  | ins c fs =>
    obtain ⟨a, dx, fvs, h1, h2, h0, h3⟩ := r
    have q' : (normF h' n ks kk fs).map (AO.ins c) = some o2 := q
    cases e : normF h' n ks kk fs with
    | none => rw [e] at q'; cases q'
    | some ys =>
      rw [e] at q'; cases q'
      exact ⟨a, dx, fvs, gc_new hn hk h1, h2, h0, normF_rp S hn e h3⟩
theorem gc_sim {rho0 : Rho} {H0 : Hp} {h h2 : Hh} (S0 : Sim g rho0 h H0) (S : Sim g rho h' H) (e : Ext rho0 H0 rho H) (q : Gc1 h h' h2 ks) : Sim g (gcRho rho h.length ks) h2 H ∧ Ext rho0 H0 (gcRho rho h.length ks) H := by
  obtain ⟨⟨os, ns, old, ol, rfl, mns⟩, nd, kb⟩ := q
  have hn : h.length ≤ rho.l.length := by rw [S.len]; exact old.len
  have nl := mapO_len mns
  refine ⟨⟨?_, fun i j a hi hj => ?_, fun i o ho => ?_, fun i a hi => ?_, S.hoc, fun i a hi => ?_⟩, ⟨?_, fun i a hi h2 => ?_, e.keep, fun a o ha ho => fun z => e.off1 a o ha ho (gc_mem hn z), e.hid, e.hof, e.occ, e.frz⟩⟩
  · rw [gc_len, List.length_append, ol, nl]
    omega
  · rcases gc_get hn hi with ⟨q1, p1⟩ | ⟨m1, k1, q1, r1, p1⟩
    · rcases gc_get hn hj with ⟨q2, p2⟩ | ⟨m2, k2, q2, r2, p2⟩
      · exact S.inj i j a p1 p2
      · have := S.inj _ _ a p1 p2
        have := (kb k2 (List.mem_of_getElem? r2)).1
        omega
    · rcases gc_get hn hj with ⟨q2, p2⟩ | ⟨m2, k2, q2, r2, p2⟩
      · have := S.inj _ _ a p1 p2
        have := (kb k1 (List.mem_of_getElem? r1)).1
        omega
      · have z := S.inj _ _ a p1 p2
        subst z
        obtain ⟨b1, c1⟩ := List.getElem?_eq_some_iff.mp r1
        obtain ⟨b2, c2⟩ := List.getElem?_eq_some_iff.mp r2
        have := (List.getElem?_inj b1 nd).mp (show ks[m1]? = ks[m2]? by rw [r1, r2])
        omega
  · by_cases hi : i < h.length
    · rw [List.getElem?_append_left (by rw [ol]; exact hi)] at ho
      have hi' : i < h'.length := by have := old.len; omega
      obtain ⟨k1, k2⟩ := old.at_ i h'[i] hi (List.getElem?_eq_getElem hi')
      rw [k1] at ho
      cases ho
      have nr : AO.nr h.length h'[i] := by
        rcases k2 with k2 | k2
        · have := (S0.obj i _ k2).nr
          rw [S0.len] at this
          exact this
        · exact k2
      exact RO.gcOld S hn hi nr (S.obj i _ (List.getElem?_eq_getElem hi'))
    · rw [List.getElem?_append_right (by rw [ol]; omega), ol] at ho
      have hj : i - h.length < ks.length := by
        rw [← nl]
        exact (List.getElem?_eq_some_iff.mp ho).1
      obtain ⟨y, y1, y2⟩ := mapO_get mns (List.getElem?_eq_getElem hj)
      rw [y1] at ho
      cases ho
      cases q3 : h'[ks[i - h.length]]? with
      | none => rw [q3] at y2; cases y2
      | some u =>
        rw [q3] at y2
        have := RO.gcNew S hn (List.getElem?_eq_getElem hj) y2 (S.obj _ u q3)
        rw [show h.length + (i - h.length) = i by omega] at this
        exact this
  · rcases gc_get hn hi with ⟨_, p1⟩ | ⟨_, k1, _, _, p1⟩
    · exact S.liv i a p1
    · exact S.liv k1 a p1
  · rcases gc_get hn hi with ⟨_, p1⟩ | ⟨_, k1, _, _, p1⟩
    · exact S.nh i a p1
    · exact S.nh k1 a p1
  · rw [gc_len, S0.len]
    omega
  · rw [S0.len] at hi
    rcases gc_get hn h2 with ⟨_, p1⟩ | ⟨m, _, p2, _, _⟩
    · exact e.old i a (by rw [S0.len]; exact hi) p1
    · omega
theorem gc_hn {rho0 : Rho} {H0 : Hp} {h h2 : Hh} (S : Sim g rho h' H) (q : Gc1 h h' h2 ks) : h.length ≤ rho.l.length := by
  obtain ⟨⟨os, ns, old, _⟩, _⟩ := q
  rw [S.len]
  exact old.len
theorem Aft.gc {rho0 : Rho} {H0 : Hp} {h : Hh} {E : XK} {Q : VK} {r r2 : Rs D} (S0 : Sim g rho0 h H0) (q : r2 ≠ .no → GcTo h r r2) (A : Aft g rho0 H0 (Rp g) E r2 Q) : Aft g rho0 H0 (Rp g) E r Q := by
  cases r2 with
  | no => exact False.elim A
  | ok d2 h2 =>
    obtain ⟨d, h', ks, rfl, q1, q2⟩ := q (by simp)
    intro rho' H' v S e r
    obtain ⟨s1, s2⟩ := gc_sim S0 S e q1
    exact A _ H' v s1 s2 (norm_rp S (gc_hn (rho0 := rho0) (H0 := H0) S q1) _ _ _ _ q2 r)
  | ex x2 h2 =>
    obtain ⟨x, h', ks, rfl, q1, qc, q2⟩ := q (by simp)
    intro rho' H' c d S e r
    obtain ⟨s1, s2⟩ := gc_sim S0 S e q1
    have hn := gc_hn (rho0 := rho0) (H0 := H0) S q1
    refine A _ H' c d s1 s2 ⟨by rw [← qc]; exact r.1, ?_⟩
    rcases r.2 with z | ⟨dd, fvs, z1, z2, z3, z4⟩
    · refine .inl ?_
      rw [z] at q2
      exact (Option.some.inj q2).symm
    · exact .inr ⟨dd, fvs, z1, z2, gc_off hn z3, normF_rp S hn q2 z4⟩
/-- a plainer promise -/
theorem FnOkG.gc {P : Program} {w : World} {mg : Str → Option Value} {base : Heap} {CX : CXT} {k m : Nat} {f : Addr} {fd : FuncData} {ps : List Str} {F F2 : Fn} (ok : FnOkG P w g.K mg base CX k f fd ps (spD g m F)) (q : ∀ ds h, F2 ds h ≠ .no → GcTo h (F ds h) (F2 ds h)) :
    FnOkG P w g.K mg base CX k f fd ps (spD g m F2) := FnOkG.imp ok fun vs H Q E ⟨hl, rho, ds, h, S, r, A⟩ => ⟨hl, rho, ds, h, S, r, A.gc S (q ds h)⟩
end
end DL

set_option maxHeartbeats 1000000
/-! Instances: attributes, methods, new ones, properties; constants of classes. -/
namespace DL
open PySem PySem.Spec PyProof.Rows L2
def lookF : List (Nat × D) → Nat → Option D
  | [], _ => none
  | (k, d) :: fs, f => if k = f then some d else lookF fs f
def setF : List (Nat × D) → Nat → D → List (Nat × D)
  | [], f, x => [(f, x)]
  | (k, d) :: fs, f, x => if k = f then (k, x) :: fs else (k, d) :: setF fs f x
section
variable {g : G} {rho : Rho} {H : Hp}
theorem lookF_lt : ∀ {fs : List (Nat × D)} {ws : List (Str × V)} {f : Nat} {d : D}, RpF g rho H fs ws → lookF fs f = some d → f < g.nf
  | [], ws, f, d, r, e => by cases e
  | (k, x) :: fs, ws, f, d, r, e => by
    unfold RpF at r
    obtain ⟨v, w, rfl, hk, r1, r2⟩ := r
    unfold lookF at e
    by_cases q : k = f
    · subst q; exact hk
    · rw [if_neg q] at e
      exact lookF_lt r2 e
theorem lookF_ok : ∀ {fs : List (Nat × D)} {ws : List (Str × V)} {f : Nat} {d : D}, RpF g rho H fs ws → lookF fs f = some d → ∃ v, ws.lookup (g.nm f) = some v ∧ Rp g rho H d v
  | [], ws, f, d, r, e => by cases e
  | (k, x) :: fs, ws, f, d, r, e => by
    unfold RpF at r
    obtain ⟨v, w, rfl, hk, r1, r2⟩ := r
    unfold lookF at e
    by_cases q : k = f
    · rw [if_pos q] at e
      cases e
      subst q
      exact ⟨v, by simp [List.lookup], r1⟩
    · rw [if_neg q] at e
      obtain ⟨u, h1, h2⟩ := lookF_ok r2 e
      refine ⟨u, ?_, h2⟩
      rw [List.lookup_cons]
      have hf : f < g.nf := lookF_lt r2 e
      have ne : (g.nm f == g.nm k) = false := by
        rw [beq_eq_false_iff_ne]
        intro z
        exact q (g.inj k f hk hf z.symm)
      rw [ne]
      exact h1
theorem setF_ok {f : Nat} {d : D} {v : V} (hf : f < g.nf) (rv : Rp g rho H d v) : ∀ {fs : List (Nat × D)} {ws : List (Str × V)}, RpF g rho H fs ws → RpF g rho H (setF fs f d) (putF (g.nm f) v ws)
  | [], ws, r => by
    unfold RpF at r
    subst r
    unfold setF
    unfold putF
    unfold RpF
    exact ⟨v, [], rfl, hf, rv, by unfold RpF; rfl⟩
  | (k, x) :: fs, ws, r => by
    unfold RpF at r
    obtain ⟨u, w, rfl, hk, r1, r2⟩ := r
    unfold setF
    unfold putF
    by_cases q : k = f
    · subst q
      rw [if_pos rfl, if_pos rfl]
      unfold RpF
      exact ⟨v, w, rfl, hk, rv, r2⟩
    · rw [if_neg q, if_neg (fun z => q (g.inj k f hk hf z))]
      unfold RpF
      exact ⟨u, _, rfl, hk, r1, setF_ok hf rv r2⟩
theorem RpF.len : ∀ {fs : List (Nat × D)} {ws : List (Str × V)}, RpF g rho H fs ws → fs.length = ws.length
  | [], ws, r => by unfold RpF at r; subst r; rfl
  | (k, x) :: fs, ws, r => by
    unfold RpF at r
    obtain ⟨u, w, rfl, hk, r1, r2⟩ := r
    rw [List.length_cons, List.length_cons, RpF.len r2]
theorem RpF.names : ∀ {fs : List (Nat × D)} {ws : List (Str × V)} {m : Str}, RpF g rho H fs ws → (∀ f, f < g.nf → g.nm f ≠ m) → ws.lookup m = none
  | [], ws, m, r, n => by unfold RpF at r; rw [r]; rfl
  | (k, x) :: fs, ws, m, r, n => by
    unfold RpF at r
    obtain ⟨u, w, rfl, hk, r1, r2⟩ := r
    rw [List.lookup_cons]
    have ne : (m == g.nm k) = false := by
      rw [beq_eq_false_iff_ne]
      exact fun z => n k hk z.symm
    rw [ne]
    exact RpF.names r2 n
theorem ref_ins {h : Hh} (S : Sim g rho h H) {i c : Nat} {fs : List (Nat × D)} {v : V} (r : Rp g rho H (.ref i) v) (e : h[i]? = some (.ins c fs)) : ∃ a dx ws, v = .ref a ∧ rho.l[i]? = some (some a) ∧ H a = some (.ins (g.ca c) dx ws) ∧ ClsOk g c ∧ RpF g rho H fs ws := by
  obtain ⟨a, dx, ws, k1, k2, k3, k4⟩ := S.obj i _ e
  unfold Rp at r
  exact ⟨a, dx, ws, r.2 a k1, k1, k2, k3, k4⟩
end
/-- the instance that d is -/
def insOf (h : Hh) : D → Option (Nat × Nat × List (Nat × D))
  | .ref i => match h[i]? with
    | some (.ins c fs) => some (i, c, fs)
    | _ => none
  | _ => none
theorem insOf_inv {h : Hh} {d : D} {i c : Nat} {fs : List (Nat × D)} (e : insOf h d = some (i, c, fs)) : d = .ref i ∧ h[i]? = some (.ins c fs) := by
  cases d with
  | ref j =>
    have e' : (match h[j]? with
      | some (.ins c fs) => some (j, c, fs)
      | _ => none) = some (i, c, fs) := e
    cases q : h[j]? with
    | none => rw [q] at e'; cases e'
    | some o =>
      rw [q] at e'
      cases o with
      | ins c' fs' => cases e'; exact ⟨rfl, q⟩
      | _ => cases e'
  | _ => cases e
theorem Aft.wu {α β : Type} {g : G} {rho : Rho} {H : Hp} {R : Rho → Hp → α → β → Prop} {W : WX} {sg : St} {r : Rs α} {Q : β → Hp → Prop} (wu : ∀ (c : Value) (d : Option Addr) (sg sg' : St) (H : Hp), W c d sg H → W c d sg' H) (A : Aft g rho H R (fun c d H' => W c d sg H') r Q) :
    Aft g rho H R (fun c d H' => ∀ sg, W c d sg H') r Q := by
  cases r with
  | ok a h' => exact A
  | ex x h' => exact fun rho' H' c d S e r sg' => wu c d sg sg' H' (A rho' H' c d S e r)
  | no => exact A
section
variable {g : G} {X : Cx} {W : WX} {k : Nat} {x : Str} {p pos pos' apos : Pos} {e o value : Expr} {es : List Expr} {F : Fn} {fs : Env' → Hh → Rs (List D)} {fo fv : Env' → Hh → Rs D}
/-- e.f -/
def dAttr (f : Nat) (fo : Env' → Hh → Rs D) : Env' → Hh → Rs D := fun de h => (fo de h).bd fun d h1 => ofO ((insOf h1 d).bind fun p => lookF p.2.2 f) h1
theorem de_attr {y : Str} (f : Nat) (he : DE g X W e fo) (hy : g.nm f = y := by rfl) (hf : f < g.nf := by decide) (hb : attributeBase e y X.env (eval e X.env) = eval e X.env := by rfl) : DE g X W (.Attribute e y pos) (dAttr f fo) := ⟨fun cx => by
  subst hy
  refine PE.imp (pe_fld (he.pe cx) hb) fun sg H Q ⟨rho, de, h, S, E, A⟩ => ?_
  refine okE.bd S E A fun rho1 H1 d v h1 S1 e1 E1 r1 A1 => ?_
  obtain ⟨y, q, kk⟩ := A1.ofO
  cases q1 : insOf h1 d with
  | none => rw [q1] at q; cases q
  | some pp =>
    obtain ⟨i, c, fs⟩ := pp
    rw [q1] at q
    obtain ⟨rfl, q2⟩ := insOf_inv q1
    obtain ⟨a, dx, ws, ev, h3, h4, h5, h6⟩ := ref_ins S1 r1 q2
    obtain ⟨u, h7, h8⟩ := lookF_ok h6 q
    refine ⟨a, g.ca c, dx, ws, u, ev, h4, by rw [← cx.K]; exact h5.cls, by rw [← cx.K]; exact h5.no f hf, h7, kk rho1 H1 u S1 (Ext.refl _ _) h8⟩⟩
/-- e.f = value -/
def sAttr (f : Nat) (fo fv : Env' → Hh → Rs D) : Env' → Hh → Sr := fun de h => (fv de h).st de fun y h1 => (fo de h1).st de fun d h2 => match insOf h2 d with
  | some (i, c, fs) => if fs.length < 1000 then .nx de (h2.set i (.ins c (setF fs f y))) else .no
  | none => .no
theorem ds_attr {y : Str} (f : Nat) (ho : DE g X W o fo) (hv : DE g X W value fv) (hy : g.nm f = y := by rfl) (hf : f < g.nf := by decide) (hs : swapsWith value (some (.Attribute o y pos')) pos.line X.env = pure false := by rfl) : DS g X W (.Assign [.Attribute o y pos'] value pos) (sAttr f fo fv) := ⟨fun cx => by
  subst hy
  refine PS.imp (ps_fld (ho.pe cx) (hv.pe cx) hs) fun Ds sg H ⟨rho, de, h, S, E, A⟩ => ?_
  refine okE.st S E A fun rho1 H1 y v h1 S1 e1 E1 r1 A1 => ?_
  refine okE.st S1 E1 A1 fun rho2 H2 d u h2 S2 e2 E2 r2 A2 => ?_
  cases q1 : insOf h2 d with
  | none => rw [q1] at A2; exact False.elim A2
  | some pp =>
    obtain ⟨i, c, fs⟩ := pp
    rw [q1] at A2
    have A3 : AftS g W rho2 H2 Ds (if fs.length < 1000 then .nx de (h2.set i (.ins c (setF fs f y))) else .no) := A2
    by_cases z : fs.length < 1000
    · rw [if_pos z] at A3
      obtain ⟨rfl, q2⟩ := insOf_inv q1
      obtain ⟨a, dx, ws, ev, h3, h4, h5, h6⟩ := ref_ins S2 r2 q2
      refine ⟨a, g.ca c, dx, ws, ev, h4, by rw [← cx.K]; exact h5.cls, by rw [← cx.K]; exact h5.no f hf, by rw [← h6.len]; exact z, ?_⟩
      have ex : Ext rho2 H2 rho2 (upd H2 a (.ins (g.ca c) dx (putF (g.nm f) v ws))) := Ext.write h3 (fun ob u z => by rw [h4] at z; cases z)
      refine A3 rho2 _ _ (S2.write h3 ⟨a, dx, _, h3, upd_same, h5, RpF.ext ex _ _ (setF_ok hf (Rp.ext e2 _ _ r1) h6)⟩ (fun _ z => nomatch z)) ex (E2.ext ex)
    · rw [if_neg z] at A3
      exact False.elim A3⟩
/-- a method of a class: the instance comes first -/
structure MeA (g : G) (P : Program) (w : World) (mg : Str → Option Value) (base : Heap) (k : Nat) (c : Nat) (m : Str) (F : Fn) : Prop where
  ex : ∃ (f : Addr) (fd : FuncData) (ps : List Str) (ds : List Value) (dvs : List V) (dd : List D) (F' : Fn), FnOkG P w g.K mg base (L2.CX P w) k f fd ps (spD g ps.length F') ∧ Meth g.K (g.ca c) m f ∧ Binds g.K fd ps ds ∧ Vals dvs ds ∧
    (∀ rho H, RpL g rho H dd dvs) ∧ ∀ es h, F es h = if es.length + dd.length = ps.length then F' (es ++ dd) h else .no
def dMeth (c : Nat) (F : Fn) (fo : Env' → Hh → Rs D) (fs : Env' → Hh → Rs (List D)) : Env' → Hh → Rs D := fun de h => (fo de h).bd fun d h1 => match insOf h1 d with
  | some (_, c', _) => if c' = c then (fs de h1).bd fun ds h2 => F (d :: ds) h2 else .no
  | none => .no
def daN : Env' → Hh → Rs (List D) := fun _ h => .ok [] h
theorem meth_key {ps : List Str} {dvs : List V} {dd : List D} {F' : Fn} {c : Nat} {m : Str} {t : TA} (cx : Cok g X W) (rd : ∀ rho H, RpL g rho H dd dvs) (eq : ∀ es h, F es h = if es.length + dd.length = ps.length then F' (es ++ dd) h else .no) (nm : ∀ f, f < g.nf → g.nm f ≠ m)
    (ht : ∀ sg H Q, okL g W fs sg H Q → t sg H Q) {sg : St} {H : Hp} {Q : VK} (h : okE g W (dMeth c F fo fs) sg H Q) : tMeth (g.ca c) m (spD g ps.length F') dvs (fun c d H' => ∀ sg, W c d sg H') (okE g W fo) t sg H Q := by
  obtain ⟨rho, de, h, S, E, A⟩ := h
  refine okE.bd S E A fun rho1 H1 d v h1 S1 e1 E1 r1 A1 => ?_
  cases q1 : insOf h1 d with
  | none => rw [q1] at A1; exact False.elim A1
  | some pp =>
    obtain ⟨i, c', gs⟩ := pp
    rw [q1] at A1
    have A2 : Aft g rho1 H1 (Rp g) (fun c d H' => W c d sg H') (if c' = c then (fs de h1).bd fun ds h2 => F (d :: ds) h2 else .no) Q := A1
    by_cases z : c' = c
    · subst z
      rw [if_pos rfl] at A2
      obtain ⟨rfl, q2⟩ := insOf_inv q1
      obtain ⟨a, dx, ws, ev, h3, h4, h5, h6⟩ := ref_ins S1 r1 q2
      refine ⟨a, dx, ws, ev, h4, h6.names nm, ht _ _ _ ?_⟩
      refine okL.bd S1 E1 A2 fun rho2 H2 xs vs h2 S2 e2 E2 r2 A3 => ?_
      rw [eq] at A3
      split at A3
      · rename_i hl
        have r3 : RpL g rho2 H2 (.ref i :: (xs ++ dd)) (v :: (vs ++ dvs)) := RpL.cons (Rp.ext e2 _ _ r1) (r2.app (rd _ _))
        refine ⟨?_, rho2, .ref i :: (xs ++ dd), h2, S2, r3, A3.wu cx.wu⟩
        rw [← r3.length, List.length_cons, List.length_append]
        rw [List.length_cons] at hl
        omega
      · exact False.elim A3
    · rw [if_neg z] at A2
      exact False.elim A2
theorem de_meth {pl : Sem Bool} {c : Nat} {m : Str} (A : MeA g X.prog X.w X.mg X.base k c m F) (cl : Cls g.K (g.ca c)) (nm : ∀ f, f < g.nf → g.nm f ≠ m) (hr : Room k X.A) (ho : DE g X W o fo) (ha : DA g X W (e :: es) fs)
    (hst : starEach (e :: es) X.env = (false, eval e X.env) :: starEach es X.env := by rfl) (hpl : (backTo pos (starEach es X.env)).any (·.1) = false := by rfl)
    (ht : eval (.Call (.Attribute o m apos) (e :: es) [] pos) X.env = (do
      let ov ← eval o X.env
      standAt apos.atName
      let (f, first) ← holding [ov] (getMethod ov m pl)
      callWith pos f first (backTo pos (starEach (e :: es) X.env)) (backToKw pos (keywordEach [] X.env))) := by rfl) : DE g X W (.Call (.Attribute o m apos) (e :: es) [] pos) (dMeth c F fo fs) := ⟨fun cx => by
  obtain ⟨f, fd, ps, ds, dvs, dd, F', ok, hm, b, vd, rd, eq⟩ := A.ex
  rw [cx.K] at ok hm b cl
  exact PE.imp (pe_methG cx.gd (ho.pe cx) cl hm ok hr b vd (passes_call (E := fun c d H => ∀ sg, W c d sg H) cx.tk fun _ _ _ _ h => h _) (ha.pa cx) hst hpl ht) fun sg H Q h => meth_key cx rd eq nm (fun _ _ _ h => h) h⟩
theorem de_meth0 {pl : Sem Bool} {c : Nat} {m : Str} (A : MeA g X.prog X.w X.mg X.base k c m F) (cl : Cls g.K (g.ca c)) (nm : ∀ f, f < g.nf → g.nm f ≠ m) (hr : Room k X.A) (ho : DE g X W o fo)
    (ht : eval (.Call (.Attribute o m apos) [] [] pos) X.env = (do
      let ov ← eval o X.env
      standAt apos.atName
      let (f, first) ← holding [ov] (getMethod ov m pl)
      callWith pos f first (backTo pos (starEach [] X.env)) (backToKw pos (keywordEach [] X.env))) := by rfl) : DE g X W (.Call (.Attribute o m apos) [] [] pos) (dMeth c F fo daN) := ⟨fun cx => by
  obtain ⟨f, fd, ps, ds, dvs, dd, F', ok, hm, b, vd, rd, eq⟩ := A.ex
  rw [cx.K] at ok hm b cl
  exact PE.imp (pe_meth0G cx.gd (ho.pe cx) cl hm ok hr b vd (passes_call (E := fun c d H => ∀ sg, W c d sg H) cx.tk fun _ _ _ _ h => h _) ht) fun sg H Q h => meth_key cx rd eq nm (fun sg H Q ⟨rho, de, h, S, E, A⟩ => A rho H [] S (Ext.refl _ _) RpL.nil) h⟩
theorem de_call0 (A : FnA g X.prog X.w X.mg X.base k x F) (hr : Room k X.A) (hg : Gl X x := by rfl) (hdb : (x == ("__debug__" : Str)) = false := by decide) : DE g X W (.Call (.Name x p) [] [] pos) (dCall F daN) := ⟨fun cx => by
  obtain ⟨f, fd, ps, ds, dvs, dd, F', ok, hm, kp, b, vd, rd, eq⟩ := A.ex
  rw [cx.K] at ok kp b
  refine PE.imp (pe_call0G cx.gd ok hr hg hm kp b vd (passes_call (E := fun c d H => ∀ sg, W c d sg H) cx.tk fun _ _ _ _ h => h _) hdb) fun sg H Q ⟨rho, de, h, S, E, A⟩ => ?_
  have A1 : Aft g rho H (Rp g) (fun c d H' => W c d sg H') (F [] h) Q := A
  rw [eq] at A1
  split at A1
  · rename_i hl
    refine ⟨?_, rho, dd, h, S, rd _ _, A1.wu cx.wu⟩
    show ([] ++ dvs).length = _
    rw [List.nil_append, ← (rd rho H).length, ← hl]
    simp
  · exact False.elim A1⟩
/-- a class that is made by its name -/
structure MkA (g : G) (P : Program) (w : World) (mg : Str → Option Value) (base : Heap) (k : Nat) (c : Nat) (x : Str) (F : Fn) : Prop where
  ex : ∃ (f : Addr) (fd : FuncData) (ps : List Str) (ds : List Value) (dvs : List V) (dd : List D) (F' : Fn), FnOkG P w g.K mg base (L2.CX P w) k f fd ps (spD g ps.length F') ∧ Mk g.K (g.ca c) f ∧ mg x = some (.ref (g.ca c)) ∧ Binds g.K fd ps ds ∧ Vals dvs ds ∧
    (∀ rho H, RpL g rho H dd dvs) ∧ ∀ es h, F es h = if es.length + dd.length = ps.length then F' (es ++ dd) h else .no
/-- the new one, its __init__ run -/
def made (c : Nat) (F : Fn) (ds : List D) (h : Hh) : Rs D := (F (.ref h.length :: ds) (h ++ [.ins c []])).bd fun v h2 => match v with
  | .non => .ok (.ref h.length) h2
  | _ => .no
def dMake (c : Nat) (F : Fn) (fs : Env' → Hh → Rs (List D)) : Env' → Hh → Rs D := fun de h => (fs de h).bd fun ds h1 => made c F ds h1
theorem new_ins {rho : Rho} {H : Hp} {h : Hh} (S : Sim g rho h H) {p : Addr} {c dx : Nat} (n : H p = none) (co : ClsOk g c) :
    Sim g (rho.add p) (h ++ [.ins c []]) (upd H p (.ins (g.ca c) dx [])) ∧ Ext rho H (rho.add p) (upd H p (.ins (g.ca c) dx [])) ∧ Rp g (rho.add p) (upd H p (.ins (g.ca c) dx [])) (.ref h.length) (.ref p) := by
  have gt : (rho.add p).l[h.length]? = some (some p) := by rw [← S.len]; unfold Rho.add; simp
  refine ⟨S.new n ⟨p, dx, [], gt, upd_same, co, by unfold RpF; rfl⟩ (fun _ z => nomatch z), Ext.new n, ?_⟩
  unfold Rp
  refine ⟨by unfold Rho.add; rw [List.length_append, S.len]; simp, fun a q => ?_⟩
  rw [gt] at q
  cases q
  rfl
theorem made_key {ps : List Str} {dvs : List V} {dd : List D} {F' : Fn} {c : Nat} {t : TA} (cx : Cok g X W) (co : ClsOk g c) (rd : ∀ rho H, RpL g rho H dd dvs) (eq : ∀ es h, F es h = if es.length + dd.length = ps.length then F' (es ++ dd) h else .no)
    (ht : ∀ sg H Q, okL g W fs sg H Q → t sg H Q) {sg : St} {H : Hp} {Q : VK} (h : okE g W (dMake c F fs) sg H Q) : tMake (g.ca c) (spD g ps.length F') dvs (fun c d H' => ∀ sg, W c d sg H') t sg H Q := by
  obtain ⟨rho, de, h, S, E, A⟩ := h
  refine ht _ _ _ ?_
  refine okL.bd S E A fun rho1 H1 xs vs h1 S1 e1 E1 r1 A1 => ?_
  intro a dx ha hd hne
  obtain ⟨s2, e2⟩ := And.intro (S1.fresh (o := .own a) hd) (Ext.fresh (rho := rho1) (o := .own a) hd)
  have ha2 : (upd H1 dx (.own a)) a = none := by rw [upd_ne (fun z => hne z.symm)]; exact ha
  obtain ⟨s3, e3, r3⟩ := new_ins s2 (c := c) (dx := dx) ha2 co
  have ee := e2.trans e3
  unfold made at A1
  rw [eq] at A1
  split at A1
  · rename_i hl
    have r4 : RpL g (rho1.add a) _ (.ref h1.length :: (xs ++ dd)) (.ref a :: (vs ++ dvs)) := RpL.cons r3 ((r1.ext ee).app (rd _ _))
    refine ⟨?_, rho1.add a, .ref h1.length :: (xs ++ dd), _, s3, r4, ?_⟩
    · rw [← r4.length, List.length_cons, List.length_append]
      rw [List.length_cons] at hl
      omega
    · have A2 := (A1.wu cx.wu).later ee
      refine A2.bd fun rho4 H4 v u h4 S4 e4 r5 A3 => ?_
      cases v with
      | non =>
        have : u = .non := by unfold Rp at r5; exact r5
        refine ⟨this, ?_⟩
        exact A3 rho4 H4 (.ref a) S4 (Ext.refl _ _) (Rp.ext e4 _ _ r3)
      | _ => exact False.elim A3
  · exact False.elim A1
theorem de_make {c : Nat} (A : MkA g X.prog X.w X.mg X.base k c x F) (co : ClsOk g c) (hr : Room (k + 1) X.A) (ha : DA g X W (e :: es) fs) (hg : Gl X x := by rfl) (hdb : (x == ("__debug__" : Str)) = false := by decide) (he : starEach (e :: es) X.env = (false, eval e X.env) :: starEach es X.env := by rfl) (hpl : (backTo pos (starEach es X.env)).any (·.1) = false := by rfl) :
    DE g X W (.Call (.Name x p) (e :: es) [] pos) (dMake c F fs) := ⟨fun cx => by
  obtain ⟨f, fd, ps, ds, dvs, dd, F', ok, hm, kp, b, vd, rd, eq⟩ := A.ex
  rw [cx.K] at ok hm b
  exact PE.imp (pe_makeG cx.gd hm ok hr hg kp b vd (passes_call (E := fun c d H => ∀ sg, W c d sg H) cx.tk fun _ _ _ _ h => h _) (ha.pa cx) hdb he hpl) fun sg H Q h => made_key cx co rd eq (fun _ _ _ h => h) h⟩
/-- a property -/
structure PrA (g : G) (P : Program) (w : World) (mg : Str → Option Value) (base : Heap) (k : Nat) (c : Nat) (y : Str) (F : Fn) : Prop where
  ex : ∃ (q f : Addr) (fd : FuncData) (x : Str), FnOkG P w g.K mg base (L2.CX P w) k f fd [x] (spD g 1 F) ∧ PropOf g.K (g.ca c) y q f ∧ Binds g.K fd [x] []
def dProp (c : Nat) (F : Fn) (fo : Env' → Hh → Rs D) : Env' → Hh → Rs D := fun de h => (fo de h).bd fun d h1 => match insOf h1 d with
  | some (_, c', _) => if c' = c then (match F [d] h1 with
    | .ok v h2 => .ok v h2
    | _ => .no) else .no
  | none => .no
theorem de_prop {c : Nat} {y : Str} (A : PrA g X.prog X.w X.mg X.base k c y F) (cl : Cls g.K (g.ca c)) (hr : Room (k + 1) X.A) (ho : DE g X W o fo) (hab : attributeBase o y X.env (eval o X.env) = eval o X.env := by rfl) : DE g X W (.Attribute o y pos) (dProp c F fo) := ⟨fun cx => by
  obtain ⟨q, f, fd, x, ok, hp, b⟩ := A.ex
  rw [cx.K] at ok hp b cl
  refine PE.imp (pe_propG cx.gd (E := fun _ _ _ => False) (dvs := []) (ho.pe cx) cl hp ok hr b .nil (fun _ _ _ _ _ _ _ h => by
    obtain ⟨_, _, _, _, _, _, _, _, _, _, _, _, z⟩ := h
    exact z) hab) fun sg H Q ⟨rho, de, h, S, E, A⟩ => ?_
  refine okE.bd S E A fun rho1 H1 d v h1 S1 e1 E1 r1 A1 => ?_
  cases q1 : insOf h1 d with
  | none => rw [q1] at A1; exact False.elim A1
  | some pp =>
    obtain ⟨i, c', gs⟩ := pp
    rw [q1] at A1
    have A2 : Aft g rho1 H1 (Rp g) (fun c d H' => W c d sg H') (if c' = c then (match F [d] h1 with
      | .ok v h2 => .ok v h2
      | _ => .no) else .no) Q := A1
    by_cases z : c' = c
    · subst z
      rw [if_pos rfl] at A2
      obtain ⟨rfl, q2⟩ := insOf_inv q1
      obtain ⟨a, dx, ws, ev, h3, h4, h5, h6⟩ := ref_ins S1 r1 q2
      refine ⟨a, dx, ws, ev, h4, rfl, rho1, [.ref i], h1, S1, RpL.cons (by rw [← ev]; exact r1) RpL.nil, ?_⟩
      cases q3 : F [.ref i] h1 with
      | ok v h2 => rw [q3] at A2; exact A2
      | ex x h2 => rw [q3] at A2; exact False.elim A2
      | no => rw [q3] at A2; exact False.elim A2
    · rw [if_neg z] at A2
      exact False.elim A2⟩
end
end DL

set_option maxHeartbeats 1000000
/-! Built-in functions and types, methods of texts, lists, dicts. -/
namespace DL
open PySem PySem.Spec PyProof.Rows L2
abbrev FB := List D → Hh → Option (D × Hh)
def ofP (o : Option (D × Hh)) : Rs D := match o with
  | some (d, h) => .ok d h
  | none => .no
theorem ofP_some (d : D) (h : Hh) : ofP (some (d, h)) = .ok d h := rfl
theorem ofP_none : ofP none = .no := rfl
def dBlt (F : FB) (fs : Env' → Hh → Rs (List D)) : Env' → Hh → Rs D := fun de h => (fs de h).bd fun ds h1 => ofP (F ds h1)
def rD (g : G) (F : FB) : List V → Hp → VK → Prop := fun vs H Q => ∃ rho h ds d h', Sim g rho h H ∧ RpL g rho H ds vs ∧ F ds h = some (d, h') ∧ Giv g rho H h' d Q
def CalD (g : G) (X : Cx) (f : Value) (F : FB) : Prop := CallR X f (rD g F)
theorem Aft.ofP {g : G} {rho : Rho} {H : Hp} {W : XK} {o : Option (D × Hh)} {Q : VK} (A : Aft g rho H (Rp g) W (DL.ofP o) Q) : ∃ d h, o = some (d, h) ∧ Giv g rho H h d Q := by
  cases o with
  | none => exact False.elim A
  | some p => exact ⟨p.1, p.2, rfl, A⟩
section
variable {g : G} {X : Cx} {W : WX} {k : Nat} {x : Str} {p pos : Pos} {e o : Expr} {es : List Expr} {F : FB} {fs : Env' → Hh → Rs (List D)} {fo : Env' → Hh → Rs D} {id T : String}
theorem blt_key {t : TA} (ht : ∀ sg H Q, okL g W fs sg H Q → t sg H Q) {sg : St} {H : Hp} {Q : VK} (h : okE g W (dBlt F fs) sg H Q) : tCB (rD g F) t sg H Q := by
  obtain ⟨rho, de, h, S, E, A⟩ := h
  refine ht _ _ _ ?_
  refine okL.bd S E A fun rho1 H1 ds vs h1 S1 e1 E1 r1 A1 => ?_
  obtain ⟨d, h', q, kk⟩ := A1.ofP
  exact ⟨rho1, h1, ds, d, h', S1, r1, q, kk⟩
theorem de_blt (hc : Cok g X W → CalD g X (.builtin id) F) (hb : bnames.contains x = true) (hv : bootBuiltins x = some (.builtin id)) (ha : DA g X W (e :: es) fs) (hg : Gl X x := by rfl) (hn : x ≠ "__name__" := by decide) (hdb : (x == ("__debug__" : Str)) = false := by decide)
    (he : starEach (e :: es) X.env = (false, eval e X.env) :: starEach es X.env := by rfl) (hpl : (backTo pos (starEach es X.env)).any (·.1) = false := by rfl) : DE g X W (.Call (.Name x p) (e :: es) [] pos) (dBlt F fs) :=
  ⟨fun cx => PE.imp (pe_callB (hc cx) hg (cx.bl x hb) hv (ha.pa cx) hn hdb he hpl) fun sg H Q h => blt_key (fun _ _ _ h => h) h⟩
theorem de_bty (hc : Cok g X W → CalD g X (.type T) F) (hb : bnames.contains x = true) (hv : bootBuiltins x = some (.type T)) (ha : DA g X W (e :: es) fs) (hg : Gl X x := by rfl) (hn : x ≠ "__name__" := by decide) (hdb : (x == ("__debug__" : Str)) = false := by decide)
    (he : starEach (e :: es) X.env = (false, eval e X.env) :: starEach es X.env := by rfl) (hpl : (backTo pos (starEach es X.env)).any (·.1) = false := by rfl) : DE g X W (.Call (.Name x p) (e :: es) [] pos) (dBlt F fs) :=
  ⟨fun cx => PE.imp (pe_callTy (hc cx) hg (cx.bl x hb) hv (ha.pa cx) hn hdb he hpl) fun sg H Q h => blt_key (fun _ _ _ h => h) h⟩
/-! ### len -/
def bLen : FB := fun ds h => match ds with
  | [.str z] => if lim z.length then some (.int z.length, h) else none
  | [d] => match seqOf h d with
    | some xs => some (.int xs.length, h)
    | none => match d with
      | .dct _ ks _ => some (.int ks.length, h)
      | .ref i => (match h[i]? with
        | some (.dct _ kvs) => some (.int kvs.length, h)
        | _ => none)
      | _ => none
  | _ => none
theorem bLen_ok : CalD g X (.builtin "len") bLen := by
  intro pins s sg H vs us Q I rv hh
  obtain ⟨rho, h, ds, d, h', S, r, eq, A⟩ := hh
  unfold bLen at eq
  split at eq
  · rename_i z
    split at eq
    · rename_i hz
      cases eq
      obtain ⟨v, w, rfl, r1, r2⟩ := r.inv
      rw [r2.inv0, r1.str_] at rv
      exact call_len_str pins s sg H _ us Q I rv ⟨z, rfl, lim_le hz, A rho H _ S (Ext.refl _ _) Rp.int'⟩
    · cases eq
  · rename_i x _
    obtain ⟨v, w, rfl, r1, r2⟩ := r.inv
    rw [r2.inv0] at rv
    cases q : seqOf h x with
    | some xs =>
      simp only [q] at eq
      cases eq
      obtain ⟨a, vs, rfl, t, l⟩ := seq_ok S r1 q
      refine call_len_seq pins s sg H _ us Q I rv ⟨a, vs, rfl, ?_, by rw [← l.length]; exact A rho H _ S (Ext.refl _ _) Rp.int'⟩
      rcases t with t | t
      · exact .inl (.inl (.inl t))
      · exact .inr (.inl (.inl t))
    | none =>
      simp only [q] at eq
      cases x with
      | dct bb ks xs =>
        cases bb with
        | true =>
        cases eq
        unfold Rp at r1
        obtain ⟨a, vs, rfl, ⟨o, t1, t2, t3, kk, t4, rfl⟩, l⟩ := r1
        refine call_len_dT pins s sg H _ us Q I rv ⟨a, kk.zip vs, rfl, t1, ?_⟩
        have : (kk.zip vs).length = ks.length := by rw [List.length_zip, ← allOf_len t4, ← t3]; omega
        rw [this]
        exact A rho H _ S (Ext.refl _ _) Rp.int'
        | false =>
        cases eq
        unfold Rp at r1
        obtain ⟨a, vs, rfl, ⟨o, t1, t2, t3, kk, t4, rfl⟩, l⟩ := r1
        refine call_lenD pins s sg H _ us Q I rv ⟨a, kk.zip vs, rfl, t1, ?_⟩
        have : (kk.zip vs).length = ks.length := by rw [List.length_zip, ← allOf_len t4, ← t3]; omega
        rw [this]
        exact A rho H _ S (Ext.refl _ _) Rp.int'
      | ref i =>
        cases q2 : h[i]? with
        | none => simp only [q2] at eq; cases eq
        | some o =>
          cases o with
          | dct t kvs =>
            cases t with
            | true =>
              simp only [q2] at eq
              cases eq
              obtain ⟨a, vs, o, h1, h2, ⟨h3, kk, h4, rfl⟩, h5⟩ := S.obj i _ q2
              unfold Rp at r1
              have ev := r1.2 a h1
              subst ev
              refine call_len_dT pins s sg H _ us Q I rv ⟨a, kk.zip vs, rfl, h2, ?_⟩
              have : (kk.zip vs).length = kvs.length := by
                have := allOf_len h4
                rw [List.length_map] at this h3
                rw [List.length_zip]
                omega
              rw [this]
              exact A rho H _ S (Ext.refl _ _) Rp.int'
            | false =>
              simp only [q2] at eq
              cases eq
              obtain ⟨a, vs, o, h1, h2, ⟨h3, kk, h4, rfl⟩, h5⟩ := S.obj i _ q2
              unfold Rp at r1
              have ev := r1.2 a h1
              subst ev
              refine call_lenD pins s sg H _ us Q I rv ⟨a, kk.zip vs, rfl, h2, ?_⟩
              have : (kk.zip vs).length = kvs.length := by
                have := allOf_len h4
                rw [List.length_map] at this h3
                rw [List.length_zip]
                omega
              rw [this]
              exact A rho H _ S (Ext.refl _ _) Rp.int'
          | _ => simp only [q2] at eq; cases eq
      | _ => cases eq
  · cases eq
/-! ### ints -/
def bInt : FB := fun ds h => match ds with
  | [.int i] => some (.int i, h)
  | [.bl b] => some (.int (if b then 1 else 0), h)
  | _ => none
theorem bInt_ok : CalD g X (.type "int") bInt := by
  intro pins s sg H vs us Q I rv hh
  obtain ⟨rho, h, ds, d, h', S, r, eq, A⟩ := hh
  unfold bInt at eq
  split at eq
  · rename_i i
    cases eq
    obtain ⟨v, w, rfl, r1, r2⟩ := r.inv
    rw [r2.inv0, r1.int_] at rv
    exact call_int1 pins s sg H _ us Q I rv (.inl ⟨i, rfl, A rho H _ S (Ext.refl _ _) Rp.int'⟩)
  · rename_i b
    cases eq
    obtain ⟨v, w, rfl, r1, r2⟩ := r.inv
    rw [r2.inv0, r1.bl_] at rv
    exact call_int1 pins s sg H _ us Q I rv (.inr ⟨b, rfl, A rho H _ S (Ext.refl _ _) Rp.int'⟩)
  · cases eq
def bAbs : FB := fun ds h => match ds with
  | [.int i] => some (.int (if i < 0 then -i else i), h)
  | _ => none
theorem bAbs_ok : CalD g X (.builtin "abs") bAbs := by
  intro pins s sg H vs us Q I rv hh
  obtain ⟨rho, h, ds, d, h', S, r, eq, A⟩ := hh
  unfold bAbs at eq
  split at eq
  · rename_i i
    cases eq
    obtain ⟨v, w, rfl, r1, r2⟩ := r.inv
    rw [r2.inv0, r1.int_] at rv
    exact call_abs pins s sg H _ us Q I rv ⟨i, rfl, A rho H _ S (Ext.refl _ _) Rp.int'⟩
  · cases eq
def bMin2 : FB := fun ds h => match ds with
  | [.int i, .int j] => some (.int (if j < i then j else i), h)
  | _ => none
def bMax2 : FB := fun ds h => match ds with
  | [.int i, .int j] => some (.int (if j > i then j else i), h)
  | _ => none
theorem bMin2_ok (cx : Cok g X W) : CalD g X (.builtin "min") bMin2 := by
  intro pins s sg H vs us Q I rv hh
  obtain ⟨rho, h, ds, d, h', S, r, eq, A⟩ := hh
  unfold bMin2 at eq
  split at eq
  · rename_i i j
    cases eq
    obtain ⟨v, w, rfl, r1, r2⟩ := r.inv
    obtain ⟨v2, w2, rfl, r3, r4⟩ := r2.inv
    rw [r4.inv0, r1.int_, r3.int_] at rv
    exact call_min2 cx.calm pins s sg H _ us Q I rv ⟨i, j, rfl, A rho H _ S (Ext.refl _ _) Rp.int'⟩
  · cases eq
theorem bMax2_ok (cx : Cok g X W) : CalD g X (.builtin "max") bMax2 := by
  intro pins s sg H vs us Q I rv hh
  obtain ⟨rho, h, ds, d, h', S, r, eq, A⟩ := hh
  unfold bMax2 at eq
  split at eq
  · rename_i i j
    cases eq
    obtain ⟨v, w, rfl, r1, r2⟩ := r.inv
    obtain ⟨v2, w2, rfl, r3, r4⟩ := r2.inv
    rw [r4.inv0, r1.int_, r3.int_] at rv
    exact call_max2 cx.calm pins s sg H _ us Q I rv ⟨i, j, rfl, A rho H _ S (Ext.refl _ _) Rp.int'⟩
  · cases eq
def bStr : FB := fun ds h => match ds with
  | [.int i] => if Nat.blt i.natAbs.log2 1920 then some (.str (Str.ofString (toString i)), h) else none
  | _ => none
theorem bStr_ok : CalD g X (.type "str") bStr := by
  intro pins s sg H vs us Q I rv hh
  obtain ⟨rho, h, ds, d, h', S, r, eq, A⟩ := hh
  unfold bStr at eq
  split at eq
  · rename_i i
    split at eq
    · rename_i hz
      cases eq
      obtain ⟨v, w, rfl, r1, r2⟩ := r.inv
      rw [r2.inv0, r1.int_] at rv
      exact call_str_int pins s sg H _ us Q I rv ⟨i, rfl, Nat.le_of_ble_eq_true hz, A rho H _ S (Ext.refl _ _) Rp.str'⟩
    · cases eq
  · cases eq
/-! ### lists and tuples of what stands -/
/-- list(x), never written / an object -/
def bListZ : FB := fun ds h => match ds with
  | [d] => (seqOf h d).map fun xs => (.lst xs, h)
  | _ => none
def bListA : FB := fun ds h => match ds with
  | [d] => (seqOf h d).map fun xs => (.ref h.length, h ++ [.lst xs])
  | _ => none
def bTup : FB := fun ds h => match ds with
  | [d] => (seqOf h d).map fun xs => (.tup xs, h)
  | _ => none
theorem bListZ_ok : CalD g X (.type "list") bListZ := by
  intro pins s sg H vs us Q I rv hh
  obtain ⟨rho, h, ds, d, h', S, r, eq, A⟩ := hh
  unfold bListZ at eq
  split at eq
  · rename_i x
    cases q : seqOf h x with
    | none => rw [q] at eq; cases eq
    | some xs =>
      rw [q] at eq
      cases eq
      obtain ⟨v, w, rfl, r1, r2⟩ := r.inv
      rw [r2.inv0] at rv
      obtain ⟨a, vs, rfl, t, l⟩ := seq_ok S r1 q
      refine call_list_of pins s sg H _ us Q I rv ⟨a, vs, rfl, ?_, fun p hp => ?_⟩
      · rcases t with t | t
        · exact .inl (.inl (.inl t))
        · exact .inr (.inl (.inl t))
      · obtain ⟨s1, s2, s3⟩ := new_lst S hp l
        exact A rho _ _ s1 s2 s3
  · cases eq
theorem bListA_ok : CalD g X (.type "list") bListA := by
  intro pins s sg H vs us Q I rv hh
  obtain ⟨rho, h, ds, d, h', S, r, eq, A⟩ := hh
  unfold bListA at eq
  split at eq
  · rename_i x
    cases q : seqOf h x with
    | none => rw [q] at eq; cases eq
    | some xs =>
      rw [q] at eq
      cases eq
      obtain ⟨v, w, rfl, r1, r2⟩ := r.inv
      rw [r2.inv0] at rv
      obtain ⟨a, vs, rfl, t, l⟩ := seq_ok S r1 q
      refine call_list_of pins s sg H _ us Q I rv ⟨a, vs, rfl, ?_, fun p hp => ?_⟩
      · rcases t with t | t
        · exact .inl (.inl (.inl t))
        · exact .inr (.inl (.inl t))
      · obtain ⟨s1, s2, s3⟩ := new_ref S hp l
        exact A _ _ _ s1 s2 s3
  · cases eq
theorem bTup_ok : CalD g X (.type "tuple") bTup := by
  intro pins s sg H vs us Q I rv hh
  obtain ⟨rho, h, ds, d, h', S, r, eq, A⟩ := hh
  unfold bTup at eq
  split at eq
  · rename_i x
    cases q : seqOf h x with
    | none => rw [q] at eq; cases eq
    | some xs =>
      rw [q] at eq
      cases eq
      obtain ⟨v, w, rfl, r1, r2⟩ := r.inv
      rw [r2.inv0] at rv
      have keep : ∀ a vs, v = .ref a → H a = some (.lst vs) → RpL g rho H xs vs → wpAny (model X.prog X.w) X.A (call (.type "tuple") us) (EP X pins sg Q) X.xe s := fun a vs ev t l => by
        subst ev
        refine call_tuple_of pins s sg H _ us Q I rv ⟨a, vs, rfl, .inl ⟨.inl (.inl t), fun p hp => ?_⟩⟩
        obtain ⟨s1, s2, s3⟩ := new_tup S hp l
        exact A rho _ _ s1 s2 s3
      cases x with
      | tup ys =>
        have e2 : ys = xs := by simpa [seqOf] using q
        subst e2
        have r1' := r1
        obtain ⟨a, vs, rfl, t, l⟩ := r1.tup_
        exact call_tuple_of pins s sg H _ us Q I rv ⟨a, vs, rfl, .inr ⟨.inl (.inl t.1), A rho H _ S (Ext.refl _ _) r1'⟩⟩
      | _ =>
        obtain ⟨a, vs, e1, t, l⟩ := lst_ok S r1 q
        exact keep a vs e1 t l
  · cases eq
/-! ### all, any -/
def bools : List D → Option (List Bool)
  | [] => some []
  | .bl b :: ds => (bools ds).map (b :: ·)
  | _ => none
theorem bools_ok {rho : Rho} {H : Hp} : ∀ {ds : List D} {bs : List Bool} {vs : List V}, bools ds = some bs → RpL g rho H ds vs → vs = bs.map V.bl
  | [], bs, vs, e, r => by cases e; exact r.inv0
  | d :: ds, bs, vs, e, r => by
    cases d with
    | bl b =>
      unfold bools at e
      cases q : bools ds with
      | none => rw [q] at e; cases e
      | some cs =>
        rw [q] at e
        cases e
        obtain ⟨v, w, rfl, r1, r2⟩ := r.inv
        rw [r1.bl_, bools_ok q r2]
        rfl
    | _ => cases e
def bAll : FB := fun ds h => match ds with
  | [d] => ((lstOf h d).bind bools).map fun bs => (.bl (bs.all _root_.id), h)
  | _ => none
def bAny : FB := fun ds h => match ds with
  | [d] => ((lstOf h d).bind bools).map fun bs => (.bl (bs.any _root_.id), h)
  | _ => none
theorem bAll_ok (cx : Cok g X W) : CalD g X (.builtin "all") bAll := by
  intro pins s sg H vs us Q I rv hh
  obtain ⟨rho, h, ds, d, h', S, r, eq, A⟩ := hh
  unfold bAll at eq
  split at eq
  · rename_i x
    cases q : lstOf h x with
    | none => rw [q] at eq; cases eq
    | some xs =>
      rw [q] at eq
      cases q2 : bools xs with
      | none => simp [q2] at eq
      | some bs =>
        simp only [Option.bind_some, q2] at eq
        cases eq
        obtain ⟨v, w, rfl, r1, r2⟩ := r.inv
        rw [r2.inv0] at rv
        obtain ⟨a, vs, rfl, t, l⟩ := lst_ok S r1 q
        rw [bools_ok q2 l] at t
        exact cr_all cx.calm pins s sg H _ us Q I rv ⟨a, bs, rfl, .inl (.inl t), A rho H _ S (Ext.refl _ _) Rp.bl'⟩
  · cases eq
theorem bAny_ok (cx : Cok g X W) : CalD g X (.builtin "any") bAny := by
  intro pins s sg H vs us Q I rv hh
  obtain ⟨rho, h, ds, d, h', S, r, eq, A⟩ := hh
  unfold bAny at eq
  split at eq
  · rename_i x
    cases q : lstOf h x with
    | none => rw [q] at eq; cases eq
    | some xs =>
      rw [q] at eq
      cases q2 : bools xs with
      | none => simp [q2] at eq
      | some bs =>
        simp only [Option.bind_some, q2] at eq
        cases eq
        obtain ⟨v, w, rfl, r1, r2⟩ := r.inv
        rw [r2.inv0] at rv
        obtain ⟨a, vs, rfl, t, l⟩ := lst_ok S r1 q
        rw [bools_ok q2 l] at t
        exact cr_any cx.calm pins s sg H _ us Q I rv ⟨a, bs, rfl, .inl (.inl t), A rho H _ S (Ext.refl _ _) Rp.bl'⟩
  · cases eq
end
end DL

set_option maxHeartbeats 1000000
/-! Methods of texts, lists and dicts. -/
namespace DL
open PySem PySem.Spec PyProof.Rows L2
abbrev FM := D → List D → Hh → Option (D × Hh)
def isL (h : Hh) (d : D) : Bool := (lstOf h d).isSome
def isS (h : Hh) (d : D) : Bool := match d with
  | .str _ => true
  | _ => false
def isD (h : Hh) (d : D) : Bool := match d with
  | .dct _ _ _ => true
  | .ref i => (match h[i]? with
    | some (.dct _ _) => true
    | _ => false)
  | _ => false
def dBm (isT : Hh → D → Bool) (F : FM) (fo : Env' → Hh → Rs D) (fs : Env' → Hh → Rs (List D)) : Env' → Hh → Rs D := fun de h => (fo de h).bd fun d h1 => if isT h1 d then (fs de h1).bd fun ds h2 => ofP (F d ds h2) else .no
def rM (g : G) (F : FM) : V → List V → Hp → VK → Prop := fun x vs H Q => ∃ rho h d ds d2 h2, Sim g rho h H ∧ Rp g rho H d x ∧ RpL g rho H ds vs ∧ F d ds h = some (d2, h2) ∧ Giv g rho H h2 d2 Q
def MtD (g : G) (X : Cx) (id : String) (F : FM) : Prop := MtR X id (rM g F)
/-- a value of that kind is of the type T -/
def TyOk (g : G) (T : String) (isT : Hh → D → Bool) : Prop := ∀ (rho : Rho) (H : Hp) (h : Hh) (d : D) (v : V), Sim g rho h H → Rp g rho H d v → isT h d = true → tyV g.K T v H
section
variable {g : G} {X : Cx} {W : WX} {k : Nat} {x name : Str} {cpos apos : Pos} {e o : Expr} {es : List Expr} {F : FM} {fs : Env' → Hh → Rs (List D)} {fo : Env' → Hh → Rs D} {id T : String} {isT : Hh → D → Bool}
theorem ty_list : TyOk g "list" isL := fun rho H h d v S r e => by
  unfold isL at e
  cases q : lstOf h d with
  | none => rw [q] at e; cases e
  | some xs =>
    obtain ⟨a, vs, rfl, t, l⟩ := lst_ok S r q
    exact .inl ⟨rfl, vs, .inl (.inl t)⟩
theorem ty_str : TyOk g "str" isS := fun rho H h d v S r e => by
  cases d with
  | str z => rw [r.str_]; exact rfl
  | _ => cases e
theorem dobj_kind {H : Hp} {a : Addr} {t : Bool} {o : HO} {ks : List D} {vs : List V} (h : H a = some o) (d : DObj t o ks vs) : (∃ kvs, H a = some (.dK kvs)) ∨ ∃ kvs, H a = some (.dT kvs) := by
  obtain ⟨_, d⟩ := d
  cases t with
  | false => obtain ⟨kk, _, rfl⟩ := d; exact .inl ⟨_, h⟩
  | true => obtain ⟨kk, _, rfl⟩ := d; exact .inr ⟨_, h⟩
theorem ty_dict : TyOk g "dict" isD := fun rho H h d v S r e => by
  cases d with
  | dct t ks xs =>
    unfold Rp at r
    obtain ⟨a, vs, rfl, ⟨o, t1, t2, t3⟩, l⟩ := r
    exact .inr (.inr (.inl ⟨rfl, dobj_kind t1 t3⟩))
  | ref i =>
    unfold isD at e
    cases q : h[i]? with
    | none => simp only [q] at e; cases e
    | some o =>
      cases o with
      | dct t kvs =>
        obtain ⟨a, vs, o, h1, h2, h3, h5⟩ := S.obj i _ q
        unfold Rp at r
        have ev := r.2 a h1
        subst ev
        exact .inr (.inr (.inl ⟨rfl, dobj_kind h2 h3⟩))
      | _ => simp only [q] at e; cases e
  | _ => cases e
theorem bm_key {t : TA} (cx : Cok g X W) (ty : TyOk g T isT) (ht : ∀ sg H Q, okL g W fs sg H Q → t sg H Q) {sg : St} {H : Hp} {Q : VK} (h : okE g W (dBm isT F fo fs) sg H Q) : tBM X.K T (rM g F) (okE g W fo) t sg H Q := by
  obtain ⟨rho, de, h, S, E, A⟩ := h
  refine okE.bd S E A fun rho1 H1 d v h1 S1 e1 E1 r1 A1 => ?_
  cases q : isT h1 d with
  | false => rw [q] at A1; exact False.elim A1
  | true =>
    rw [q] at A1
    refine ⟨by rw [← cx.K]; exact ty rho1 H1 h1 d v S1 r1 q, ht _ _ _ ?_⟩
    have A2 : Aft g rho1 H1 (Rp g) (fun c d H' => W c d sg H') ((fs de h1).bd fun ds h2 => ofP (F d ds h2)) Q := A1
    refine okL.bd S1 E1 A2 fun rho2 H2 ds vs h2 S2 e2 E2 r2 A3 => ?_
    obtain ⟨d2, h', q2, kk⟩ := A3.ofP
    exact ⟨rho2, h2, d, ds, d2, h', S2, Rp.ext e2 _ _ r1, r2, q2, kk⟩
theorem de_bm (pa : PlainAttrs T) (slot : Slot T name id) (hty : typeOf (.builtin id) = pure (.type "method_descriptor")) (ty : TyOk g T isT) (hm : MtD g X id F) (ho : DE g X W o fo) (ha : DA g X W (e :: es) fs)
    (hbase : attributeBase o name X.env (eval o X.env) = eval o X.env := by rfl)
    (hfew : ((backTo cpos (starEach (e :: es) X.env)).all (fun x => !x.1) && (backToKw cpos (keywordEach [] X.env)).all (fun x => x.1.isSome)
      && decide ((e :: es).length + ([] : List Keyword).length + (if ([] : List Keyword).isEmpty then 0 else 1) < 30)) = true := by rfl)
    (hline : (apos.endLine == cpos.line) = true := by rfl) (hs : starEach (e :: es) X.env = (false, eval e X.env) :: starEach es X.env := by rfl) (hplain : (backTo cpos (starEach es X.env)).any (·.1) = false := by rfl) :
    DE g X W (.Call (.Attribute o name apos) (e :: es) [] cpos) (dBm isT F fo fs) :=
  ⟨fun cx => PE.imp (pe_bm pa slot hty hm (ho.pe cx) (ha.pa cx) hbase hfew hline hs hplain) fun sg H Q h => bm_key cx ty (fun _ _ _ h => h) h⟩
theorem de_bm0 (pa : PlainAttrs T) (slot : Slot T name id) (hty : typeOf (.builtin id) = pure (.type "method_descriptor")) (ty : TyOk g T isT) (hm : MtD g X id F) (ho : DE g X W o fo)
    (hbase : attributeBase o name X.env (eval o X.env) = eval o X.env := by rfl) (hline : (apos.endLine == cpos.line) = true := by rfl) :
    DE g X W (.Call (.Attribute o name apos) [] [] cpos) (dBm isT F fo daN) :=
  ⟨fun cx => PE.imp (pe_bm0 pa slot hty hm (ho.pe cx) hbase hline) fun sg H Q h => by
    obtain ⟨h1, h2, h3, h4, h5⟩ := id_ (bm_key (t := tNil) cx ty (fun sg H Q ⟨rho, de, h, S, E, A⟩ => A rho H [] S (Ext.refl _ _) RpL.nil) h)
    exact ⟨h1, h2, h3, h4, h5⟩⟩
where
  id_ {p : Prop} (h : p) : p := h
/-! ### lists -/
/-- the live list that d is -/
def liveL (h : Hh) : D → Option (Nat × List D)
  | .ref i => match h[i]? with
    | some (.lst xs) => some (i, xs)
    | _ => none
  | _ => none
theorem liveL_ok {rho : Rho} {H : Hp} {h : Hh} (S : Sim g rho h H) {d : D} {v : V} {i : Nat} {xs : List D} (r : Rp g rho H d v) (e : liveL h d = some (i, xs)) : d = .ref i ∧ h[i]? = some (.lst xs) ∧ ∃ a vs, v = .ref a ∧ rho.l[i]? = some (some a) ∧ H a = some (.lst vs) ∧ RpL g rho H xs vs := by
  cases d with
  | ref j =>
    have e' : (match h[j]? with
      | some (.lst xs) => some (j, xs)
      | _ => none) = some (i, xs) := e
    cases q : h[j]? with
    | none => rw [q] at e'; cases e'
    | some o =>
      rw [q] at e'
      cases o with
      | lst ys =>
        cases e'
        obtain ⟨a, vs, k1, k2, k3⟩ := S.obj _ _ q
        unfold Rp at r
        exact ⟨rfl, q, a, vs, r.2 a k1, k1, k2, k3⟩
      | _ => cases e'
  | _ => cases e
/-- a live list is written -/
theorem lst_wr {rho : Rho} {H : Hp} {h : Hh} (S : Sim g rho h H) {i : Nat} {a : Addr} {ys : List D} {ws : List V} (ha : rho.l[i]? = some (some a)) {zs : List V} (hz : H a = some (.lst zs)) (l : RpL g rho H ys ws) :
    Sim g rho (h.set i (.lst ys)) (upd H a (.lst ws)) ∧ Ext rho H rho (upd H a (.lst ws)) :=
  have ex := Ext.write (o := .lst ws) ha (fun ob u z => by rw [hz] at z; cases z)
  ⟨S.write ha ⟨a, ws, ha, upd_same, l.ext ex⟩ (fun _ z => nomatch z), ex⟩
def mAppend : FM := fun d ds h => match ds with
  | [y] => (liveL h d).bind fun p => if lim (p.2.length + 1) then some (.non, h.set p.1 (.lst (p.2 ++ [y]))) else none
  | _ => none
theorem mAppend_ok : MtD g X "list.append" mAppend := by
  intro pins s sg H x vs v us Q I rx rvs hh
  obtain ⟨rho, h, d, ds, d2, h2, S, r1, r2, eq, A⟩ := hh
  unfold mAppend at eq
  split at eq
  · rename_i y
    cases q : liveL h d with
    | none => rw [q] at eq; cases eq
    | some p =>
      obtain ⟨i, xs⟩ := p
      rw [q] at eq
      have eq' : (if lim (xs.length + 1) then some (D.non, h.set i (.lst (xs ++ [y]))) else none) = some (d2, h2) := eq
      split at eq'
      · rename_i hz
        cases eq'
        obtain ⟨rfl, q2, a, ws, rfl, ha, hw, l⟩ := liveL_ok S r1 q
        obtain ⟨u, w, rfl, r3, r4⟩ := r2.inv
        rw [r4.inv0] at rvs
        obtain ⟨s1, s2⟩ := lst_wr S ha hw (l.app (.cons r3 .nil))
        refine mt_append pins s sg H _ _ v us Q I rx rvs ⟨a, ws, u, rfl, rfl, hw, ?_, A rho _ _ s1 s2 Rp.non'⟩
        have := lim_le hz
        rw [← l.length]
        omega
      · cases eq'
  · cases eq
def mExtend : FM := fun d ds h => match ds with
  | [y] => (liveL h d).bind fun p => (lstOf h y).bind fun ys => if lim (p.2.length + ys.length) then some (.non, h.set p.1 (.lst (p.2 ++ ys))) else none
  | _ => none
theorem mExtend_ok : MtD g X "list.extend" mExtend := by
  intro pins s sg H x vs v us Q I rx rvs hh
  obtain ⟨rho, h, d, ds, d2, h2, S, r1, r2, eq, A⟩ := hh
  unfold mExtend at eq
  split at eq
  · rename_i y
    cases q : liveL h d with
    | none => rw [q] at eq; cases eq
    | some p =>
      obtain ⟨i, xs⟩ := p
      rw [q] at eq
      cases q3 : lstOf h y with
      | none => simp [q3] at eq
      | some ys =>
        simp only [Option.bind_some, q3] at eq
        have eq' : (if lim (xs.length + ys.length) then some (D.non, h.set i (.lst (xs ++ ys))) else none) = some (d2, h2) := eq
        split at eq'
        · rename_i hz
          cases eq'
          obtain ⟨rfl, q2, a, ws, rfl, ha, hw, l⟩ := liveL_ok S r1 q
          obtain ⟨u, w, rfl, r3, r4⟩ := r2.inv
          rw [r4.inv0] at rvs
          obtain ⟨b, zs, rfl, t, l2⟩ := lst_ok S r3 q3
          obtain ⟨s1, s2⟩ := lst_wr S ha hw (l.app l2)
          refine mt_extend pins s sg H _ _ v us Q I rx rvs ⟨a, b, ws, zs, rfl, rfl, hw, t, ?_, A rho _ _ s1 s2 Rp.non'⟩
          rw [← l.length, ← l2.length]
          exact lim_le hz
        · cases eq'
  · cases eq
theorem RpL.dropLast {rho : Rho} {H : Hp} {ds : List D} {vs : List V} (h : RpL g rho H ds vs) : RpL g rho H ds.dropLast vs.dropLast := by
  rw [List.dropLast_eq_take, List.dropLast_eq_take, h.length]
  exact h.take _
def mPop : FM := fun d ds h => match ds with
  | [] => (liveL h d).bind fun p => (p.2[p.2.length - 1]?).map fun y => (y, h.set p.1 (.lst p.2.dropLast))
  | [.int j] => (liveL h d).bind fun p => (ixN p.2.length j).bind fun k => if lim p.2.length then (p.2[k]?).map fun y => (y, h.set p.1 (.lst (p.2.eraseIdx k))) else none
  | _ => none
theorem mPop_ok : MtD g X "list.pop" mPop := by
  intro pins s sg H x vs v us Q I rx rvs hh
  obtain ⟨rho, h, d, ds, d2, h2, S, r1, r2, eq, A⟩ := hh
  unfold mPop at eq
  split at eq
  · cases q : liveL h d with
    | none => rw [q] at eq; cases eq
    | some p =>
      obtain ⟨i, xs⟩ := p
      rw [q] at eq
      cases q3 : xs[xs.length - 1]? with
      | none => simp [q3] at eq
      | some y =>
        simp only [Option.bind_some, q3] at eq
        cases eq
        obtain ⟨rfl, q2, a, ws, rfl, ha, hw, l⟩ := liveL_ok S r1 q
        rw [r2.inv0] at rvs
        obtain ⟨u, k1, k2⟩ := l.get q3
        obtain ⟨s1, s2⟩ := lst_wr S ha hw l.dropLast
        exact mt_pop pins s sg H _ _ v us Q I rx rvs ⟨a, ws, u, rfl, rfl, hw, by rw [← l.length]; exact k1, A rho _ _ s1 s2 (Rp.ext s2 _ _ k2)⟩
  · rename_i j
    cases q : liveL h d with
    | none => rw [q] at eq; cases eq
    | some p =>
      obtain ⟨i, xs⟩ := p
      rw [q] at eq
      cases q4 : ixN xs.length j with
      | none => simp [q4] at eq
      | some k =>
        simp only [Option.bind_some, q4] at eq
        split at eq
        · rename_i hz
          cases q3 : xs[k]? with
          | none => simp [q3] at eq
          | some y =>
            simp only [q3] at eq
            cases eq
            obtain ⟨rfl, q2, a, ws, rfl, ha, hw, l⟩ := liveL_ok S r1 q
            obtain ⟨u0, w0, rfl, r3, r4⟩ := r2.inv
            rw [r4.inv0, r3.int_] at rvs
            obtain ⟨u, k1, k2⟩ := l.get q3
            obtain ⟨s1, s2⟩ := lst_wr S ha hw (l.erase k)
            obtain ⟨x1, x2, x3, x4⟩ := ixN_seq q4
            have z := lim_le hz
            have : sizeLine = 16777216 := rfl
            exact mt_popAt pins s sg H _ _ v us Q I rx rvs ⟨a, ws, j, k, u, rfl, rfl, hw, by omega, by omega, by rw [← l.length]; exact x1, k1, A rho _ _ s1 s2 (Rp.ext s2 _ _ k2)⟩
        · cases eq
  · cases eq
def mReverse : FM := fun d ds h => match ds with
  | [] => (liveL h d).map fun p => (.non, h.set p.1 (.lst p.2.reverse))
  | _ => none
theorem mReverse_ok : MtD g X "list.reverse" mReverse := by
  intro pins s sg H x vs v us Q I rx rvs hh
  obtain ⟨rho, h, d, ds, d2, h2, S, r1, r2, eq, A⟩ := hh
  unfold mReverse at eq
  split at eq
  · cases q : liveL h d with
    | none => rw [q] at eq; cases eq
    | some p =>
      obtain ⟨i, xs⟩ := p
      rw [q] at eq
      cases eq
      obtain ⟨rfl, q2, a, ws, rfl, ha, hw, l⟩ := liveL_ok S r1 q
      rw [r2.inv0] at rvs
      obtain ⟨s1, s2⟩ := lst_wr S ha hw l.rev
      exact mt_reverse pins s sg H _ _ v us Q I rx rvs ⟨a, ws, rfl, rfl, hw, A rho _ _ s1 s2 Rp.non'⟩
  · cases eq
def mClear : FM := fun d ds h => match ds with
  | [] => (liveL h d).map fun p => (.non, h.set p.1 (.lst []))
  | _ => none
theorem mClear_ok : MtD g X "list.clear" mClear := by
  intro pins s sg H x vs v us Q I rx rvs hh
  obtain ⟨rho, h, d, ds, d2, h2, S, r1, r2, eq, A⟩ := hh
  unfold mClear at eq
  split at eq
  · cases q : liveL h d with
    | none => rw [q] at eq; cases eq
    | some p =>
      obtain ⟨i, xs⟩ := p
      rw [q] at eq
      cases eq
      obtain ⟨rfl, q2, a, ws, rfl, ha, hw, l⟩ := liveL_ok S r1 q
      rw [r2.inv0] at rvs
      obtain ⟨s1, s2⟩ := lst_wr S ha hw (RpL.nil (g := g))
      exact mt_clear pins s sg H _ _ v us Q I rx rvs ⟨a, ws, rfl, rfl, hw, A rho _ _ s1 s2 Rp.non'⟩
  · cases eq
/-! ### texts -/
def strsOf : List D → Option (List Str)
  | [] => some []
  | .str b :: ds => (strsOf ds).map (b :: ·)
  | _ => none
theorem strs_ok {rho : Rho} {H : Hp} : ∀ {ds : List D} {bs : List Str} {vs : List V}, strsOf ds = some bs → RpL g rho H ds vs → vs = bs.map V.str
  | [], bs, vs, e, r => by cases e; exact r.inv0
  | d :: ds, bs, vs, e, r => by
    cases d with
    | str b =>
      unfold strsOf at e
      cases q : strsOf ds with
      | none => rw [q] at e; cases e
      | some cs =>
        rw [q] at e
        cases e
        obtain ⟨v, w, rfl, r1, r2⟩ := r.inv
        rw [r1.str_, strs_ok q r2]
        rfl
    | _ => cases e
def mJoin : FM := fun d ds h => match d, ds with
  | .str a, [y] => (seqOf h y).bind fun xs => (strsOf xs).bind fun ys => if lim ((ys.map (·.length)).sum + ys.length * a.length) then some (.str (Txt.join a ys), h) else none
  | _, _ => none
theorem mJoin_ok : MtD g X "str.join" mJoin := by
  intro pins s sg H x vs v us Q I rx rvs hh
  obtain ⟨rho, h, d, ds, d2, h2, S, r1, r2, eq, A⟩ := hh
  unfold mJoin at eq
  split at eq
  · rename_i a y
    cases q : seqOf h y with
    | none => simp [q] at eq
    | some xs =>
      simp only [Option.bind_some, q] at eq
      cases q3 : strsOf xs with
      | none => simp [q3] at eq
      | some ys =>
        simp only [Option.bind_some, q3] at eq
        split at eq
        · rename_i hz
          cases eq
          obtain ⟨u, w, rfl, r3, r4⟩ := r2.inv
          rw [r4.inv0] at rvs
          rw [r1.str_] at rx
          obtain ⟨b, zs, rfl, t, l2⟩ := seq_ok S r3 q
          have ez := strs_ok q3 l2
          subst ez
          refine mt_join pins s sg H _ _ v us Q I rx rvs ⟨a, b, ys, rfl, rfl, ?_, by have := lim_le hz; rw [show (16777216 : Nat) = sizeLine from rfl]; exact this, A rho _ _ S (Ext.refl _ _) Rp.str'⟩
          rcases t with t | t
          · exact .inl (.inl (.inl t))
          · exact .inr (.inl (.inl t))
        · cases eq
  · cases eq
/-- text.split(sep), never written -/
def mSplit : FM := fun d ds h => match d, ds with
  | .str a, [.str b] => if lim (a.length + 2) && !(b.length == 0) then some (.lst ((Txt.split a b).map D.str), h) else none
  | _, _ => none
theorem RpL.strs {rho : Rho} {H : Hp} : ∀ (bs : List Str), RpL g rho H (bs.map D.str) (bs.map V.str)
  | [] => RpL.nil
  | b :: bs => RpL.cons Rp.str' (RpL.strs bs)
theorem mSplit_ok : MtD g X "str.split" mSplit := by
  intro pins s sg H x vs v us Q I rx rvs hh
  obtain ⟨rho, h, d, ds, d2, h2, S, r1, r2, eq, A⟩ := hh
  unfold mSplit at eq
  split at eq
  · rename_i a b
    split at eq
    · rename_i hz
      cases eq
      obtain ⟨z1, z2⟩ := Bool.and_eq_true_iff.mp hz
      obtain ⟨u, w, rfl, r3, r4⟩ := r2.inv
      rw [r4.inv0, r3.str_] at rvs
      rw [r1.str_] at rx
      refine mt_split pins s sg H _ _ v us Q I rx rvs ⟨a, b, rfl, rfl, by simpa using z2, lim_le z1, fun p hp => ?_⟩
      obtain ⟨s1, s2, s3⟩ := new_lst S hp (RpL.strs (Txt.split a b))
      exact A rho _ _ s1 s2 s3
    · cases eq
  · cases eq
def mLjust : FM := fun d ds h => match d, ds with
  | .str a, [.int i] => if PadOk i then some (.str (Txt.ljust a i), h) else none
  | _, _ => none
def mRjust : FM := fun d ds h => match d, ds with
  | .str a, [.int i] => if PadOk i then some (.str (Txt.rjust a i), h) else none
  | _, _ => none
theorem mLjust_ok : MtD g X "str.ljust" mLjust := by
  intro pins s sg H x vs v us Q I rx rvs hh
  obtain ⟨rho, h, d, ds, d2, h2, S, r1, r2, eq, A⟩ := hh
  unfold mLjust at eq
  split at eq
  · rename_i a b
    split at eq
    · rename_i hz
      cases eq
      obtain ⟨u, w, rfl, r3, r4⟩ := r2.inv
      rw [r4.inv0, r3.int_] at rvs
      rw [r1.str_] at rx
      exact mt_ljust pins s sg H _ _ v us Q I rx rvs ⟨a, b, rfl, rfl, hz, A rho _ _ S (Ext.refl _ _) Rp.str'⟩
    · cases eq
  · cases eq
theorem mRjust_ok : MtD g X "str.rjust" mRjust := by
  intro pins s sg H x vs v us Q I rx rvs hh
  obtain ⟨rho, h, d, ds, d2, h2, S, r1, r2, eq, A⟩ := hh
  unfold mRjust at eq
  split at eq
  · rename_i a b
    split at eq
    · rename_i hz
      cases eq
      obtain ⟨u, w, rfl, r3, r4⟩ := r2.inv
      rw [r4.inv0, r3.int_] at rvs
      rw [r1.str_] at rx
      exact mt_rjust pins s sg H _ _ v us Q I rx rvs ⟨a, b, rfl, rfl, hz, A rho _ _ S (Ext.refl _ _) Rp.str'⟩
    · cases eq
  · cases eq
def mUpper : FM := fun d ds h => match d, ds with
  | .str a, [] => if Nat.ble a.length 5592405 then some (.str (Txt.upper a), h) else none
  | _, _ => none
theorem mUpper_ok : MtD g X "str.upper" mUpper := by
  intro pins s sg H x vs v us Q I rx rvs hh
  obtain ⟨rho, h, d, ds, d2, h2, S, r1, r2, eq, A⟩ := hh
  unfold mUpper at eq
  split at eq
  · rename_i a
    split at eq
    · rename_i hz
      cases eq
      rw [r2.inv0] at rvs
      rw [r1.str_] at rx
      exact mt_upper pins s sg H _ _ v us Q I rx rvs ⟨a, rfl, rfl, Nat.le_of_ble_eq_true hz, A rho _ _ S (Ext.refl _ _) Rp.str'⟩
    · cases eq
  · cases eq
end
end DL

set_option maxHeartbeats 1000000
/-! Slices, f-strings, stores into lists and dicts, displays of dicts, constants of classes, isinstance. -/
namespace DL
open PySem PySem.Spec PyProof.Rows L2
section
variable {g : G} {X : Cx} {W : WX} {k : Nat} {x name : Str} {p p2 pos cpos apos : Pos} {e o i value : Expr} {es : List Expr} {lo hi : Option Expr} {fs : Env' → Hh → Rs (List D)} {fo fi f fa fb : Env' → Hh → Rs D}
/-! ### slices -/
abbrev OI := Env' → Hh → Rs (Option Int)
def okO (g : G) (W : WX) (f : OI) : TO := fun sg H Q => ∃ rho de h, Sim g rho h H ∧ EnvR g rho H de sg ∧ Aft g rho H (fun _ _ a b => a = b) (fun c d H' => W c d sg H') (f de h) Q
structure DO (g : G) (X : Cx) (W : WX) (e : Option Expr) (f : OI) : Prop where
  po : Cok g X W → PO X e (okO g W f)
def oN : OI := fun _ h => .ok none h
def oS (f : Env' → Hh → Rs D) : OI := fun de h => (f de h).bd fun d h1 => match d with
  | .int i => .ok (some i) h1
  | _ => .no
theorem PO.imp {t t' : TO} {e : Option Expr} (p : PO X e t) (k : ∀ sg H Q, t' sg H Q → t sg H Q) : PO X e t' := ⟨fun pins s sg H Q I h => p.run pins s sg H Q I (k sg H Q h)⟩
theorem do_none : DO g X W none oN := ⟨fun _ => PO.imp po_none fun sg H Q ⟨rho, de, h, S, E, A⟩ => A rho H none S (Ext.refl _ _) rfl⟩
theorem do_some (h : DE g X W e f) : DO g X W (some e) (oS f) := ⟨fun cx => PO.imp (po_some (h.pe cx)) fun sg H Q ⟨rho, de, h, S, E, A⟩ => by
  refine okE.bd S E A fun rho1 H1 d v h1 S1 e1 E1 r1 A1 => ?_
  cases d with
  | int i => exact ⟨i, r1.int_, A1 rho1 H1 _ S1 (Ext.refl _ _) rfl⟩
  | _ => exact False.elim A1⟩
theorem okO.bd {α β : Type} {f : OI} {R : Rho → Hp → α → β → Prop} {k : Option Int → Hh → Rs α} {Q : β → Hp → Prop} {Q' : Option Int → Hp → Prop} {rho : Rho} {H : Hp} {h : Hh} {de : Env'} {sg : St} (S : Sim g rho h H) (E : EnvR g rho H de sg) (A : Aft g rho H R (fun c d H' => W c d sg H') ((f de h).bd k) Q)
    (n : ∀ rho1 H1 o h1, Sim g rho1 h1 H1 → Ext rho H rho1 H1 → EnvR g rho1 H1 de sg → Aft g rho1 H1 R (fun c d H' => W c d sg H') (k o h1) Q → Q' o H1) : okO g W f sg H Q' :=
  ⟨rho, de, h, S, E, A.bd fun rho1 H1 a b h1 S1 e1 r1 A1 => by
    have r2 : a = b := r1
    subst r2
    exact n rho1 H1 a h1 S1 e1 (E.ext e1) A1⟩
theorem rpl_ints {rho : Rho} {H : Hp} : ∀ ns : List Int, RpL g rho H (ns.map D.int) (ns.map V.int)
  | [] => RpL.nil
  | n :: ns => RpL.cons (by unfold Rp; rfl) (rpl_ints ns)
def cutD (xs : List D) (lo hi : Option Int) : List D := (xs.drop (HT.sIx xs.length 0 lo)).take (HT.sIx xs.length xs.length hi - HT.sIx xs.length 0 lo)
theorem RpL.cut {rho : Rho} {H : Hp} {xs : List D} {vs : List V} (r : RpL g rho H xs vs) (lo hi : Option Int) : RpL g rho H (cutD xs lo hi) (cutV vs lo hi) := by
  unfold cutD cutV
  rw [r.length]
  exact (r.drop _).take _
/-- lists (never written), tuples, texts -/
def oCut (d : D) (lo hi : Option Int) (h : Hh) : Option D := match d with
  | .str z => if lim z.length then some (.str (cutS z lo hi)) else none
  | .tup xs => some (.tup (cutD xs lo hi))
  | .scr ns => some (.lst (cutD (ns.map D.int) lo hi))
  | d => (lstOf h d).map fun xs => .lst (cutD xs lo hi)
def dSl (fo : Env' → Hh → Rs D) (fl fu : OI) : Env' → Hh → Rs D := fun de h => (fo de h).bd fun d h1 => (fl de h1).bd fun l h2 => (fu de h2).bd fun u h3 => ofO (oCut d l u h3) h3
theorem de_slice {fl fu : OI} (he : DE g X W e fo) (hl : DO g X W lo fl) (hu : DO g X W hi fu) : DE g X W (.Subscript e (.Slice lo hi none p2) pos) (dSl fo fl fu) := ⟨fun cx => by
  refine PE.imp (pe_slice (SlR.or sl_list (SlR.or sl_tupA sl_str)) (he.pe cx) (hl.po cx) (hu.po cx)) fun sg H Q ⟨rho, de, h, S, E, A⟩ => ?_
  refine okE.bd S E A fun rho1 H1 d v h1 S1 e1 E1 r1 A1 => ?_
  refine okO.bd S1 E1 A1 fun rho2 H2 l h2 S2 e2 E2 A2 => ?_
  refine okO.bd S2 E2 A2 fun rho3 H3 u h3 S3 e3 E3 A3 => ?_
  obtain ⟨y, q, kk⟩ := A3.ofO
  have r3 := Rp.ext (e2.trans e3) _ _ r1
  have lists : ∀ xs, lstOf h3 d = some xs → y = .lst (cutD xs l u) → (rSlL X.K v l u H3 Q ∨ rSlA X.K v l u H3 Q ∨ rSlS v l u H3 Q) := fun xs e1 e2 => by
    subst e2
    obtain ⟨a, vs, rfl, t, l2⟩ := lst_ok S3 r3 e1
    refine .inl ⟨a, vs, rfl, .inl (.inl t), fun p hp => ?_⟩
    obtain ⟨s1, s2, s3⟩ := new_lst S3 hp (l2.cut l u)
    exact kk rho3 _ _ s1 s2 s3
  cases d with
  | str z =>
    have q' : (if lim z.length then some (D.str (cutS z l u)) else none) = some y := q
    split at q'
    · rename_i hz
      cases q'
      exact .inr (.inr ⟨z, r3.str_, lim_le hz, kk rho3 H3 _ S3 (Ext.refl _ _) Rp.str'⟩)
    · cases q'
  | tup xs =>
    have q' : some (D.tup (cutD xs l u)) = some y := q
    cases q'
    have r3' := r3
    obtain ⟨a, vs, rfl, t, l2⟩ := r3.tup_
    refine .inr (.inl ⟨a, vs, rfl, .inl (.inl t.1), fun w => ?_, fun _ p hp => ?_⟩)
    · have : cutD xs l u = xs := by
        unfold cutD
        rw [l2.length, w.1, w.2, ← l2.length]
        simp
      rw [this] at kk
      exact kk rho3 H3 _ S3 (Ext.refl _ _) r3'
    · obtain ⟨s1, s2, s3⟩ := new_tup S3 hp (l2.cut l u)
      exact kk rho3 _ _ s1 s2 s3
  | scr ns =>
    cases q
    unfold Rp at r3
    obtain ⟨a, rfl, t⟩ := r3
    refine .inl ⟨a, ns.map V.int, rfl, by rw [← cx.K]; exact t.sql, fun p hp => ?_⟩
    obtain ⟨s1, s2, s3⟩ := new_lst S3 hp ((rpl_ints (rho := rho3) (H := H3) ns).cut l u)
    exact kk rho3 _ _ s1 s2 s3
  | lst ys =>
    have q' : (lstOf h3 (.lst ys)).map (fun xs => D.lst (cutD xs l u)) = some y := q
    cases q2 : lstOf h3 (.lst ys) with
    | none => rw [q2] at q'; cases q'
    | some xs => rw [q2] at q'; cases q'; exact lists xs q2 rfl
  | ref j =>
    have q' : (lstOf h3 (.ref j)).map (fun xs => D.lst (cutD xs l u)) = some y := q
    cases q2 : lstOf h3 (.ref j) with
    | none => rw [q2] at q'; cases q'
    | some xs => rw [q2] at q'; cases q'; exact lists xs q2 rfl
  | _ => cases q⟩
/-- xs[::st], st one or minus one -/
def dStep (fo fi : Env' → Hh → Rs D) : Env' → Hh → Rs D := fun de h => (fo de h).bd fun d h1 => (fi de h1).bd fun s h2 => ofO (match d, s with
  | .lst xs, .int i => if i = 1 then some (.lst xs) else if i = -1 then some (.lst xs.reverse) else none
  | _, _ => none) h2
theorem de_step (he : DE g X W e fo) (hi : DE g X W i fi) : DE g X W (.Subscript e (.Slice none none (some i) p2) pos) (dStep fo fi) := ⟨fun cx => ⟨fun pins s sg H Q I ⟨rho, de, h, S, E, A⟩ => by
  refine Subscript_ (thn ((he.pe cx).run pins s sg H (fun x H1 => ∃ rho1 h1 d, x = x ∧ Sim g rho1 h1 H1 ∧ EnvR g rho1 H1 de sg ∧ Rp g rho1 H1 d x ∧ Aft g rho1 H1 (Rp g) (fun c d H' => W c d sg H') ((fi de h1).bd fun s h2 => ofO (match d, s with
    | .lst xs, .int i => if i = 1 then some (.lst xs) else if i = -1 then some (.lst xs.reverse) else none
    | _, _ => none) h2) Q) I (okE.bd S E A fun rho1 H1 d v h1 S1 e1 E1 r1 A1 => ⟨rho1, h1, d, rfl, S1, E1, r1, A1⟩)) fun v s1 ⟨x, H1, I1, r1, rho1, h1, d, _, S1, E1, rd, A1⟩ => ?_)
  refine wpAny_Slice (thn (po_none.run pins s1 sg H1 (fun o H2 => o = none ∧ H2 = H1) I1 ⟨rfl, rfl⟩) fun vl s2 ⟨l, H2, I2, pl, el, e2⟩ => ?_)
  subst el e2
  refine thn (po_none.run pins s2 sg H2 (fun o H3 => o = none ∧ H3 = H2) I2 ⟨rfl, rfl⟩) fun vu s3 ⟨u, H3, I3, pu, eu, e3⟩ => ?_
  subst eu e3
  refine thn ((po_some (hi.pe cx)).run pins s3 sg H3 (fun o H4 => ∃ xs vs a, x = .ref a ∧ H4 a = some (.lst vs) ∧ ((o = some 1 ∧ ∀ p, H4 p = none → Q (.ref p) (upd H4 p (.lst vs))) ∨ (o = some (-1) ∧ ∀ p, H4 p = none → Q (.ref p) (upd H4 p (.lst vs.reverse)))) ∧ xs = vs) I3 ?_) fun vs s4 ⟨o, H4, I4, ps, _, zs, a, ex, ha, ho, _⟩ => ?_
  · refine okE.bd S1 E1 A1 fun rho4 H4 st v4 h4 S4 e4 E4 r4 A4 => ?_
    obtain ⟨y, q, kk⟩ := A4.ofO
    have rd4 := Rp.ext e4 _ _ rd
    split at q
    · rename_i xs i
      unfold Rp at rd4
      obtain ⟨a, ws, ea, t, l⟩ := rd4
      refine ⟨i, r4.int_, ws, ws, a, ea, t.1, ?_, rfl⟩
      split at q
      · rename_i hi
        cases q
        refine .inl ⟨by rw [hi], fun p hp => ?_⟩
        obtain ⟨s1, s2, s3⟩ := new_lst S4 hp l
        exact kk rho4 _ _ s1 s2 s3
      · split at q
        · rename_i hi
          cases q
          refine .inr ⟨by rw [hi], fun p hp => ?_⟩
          obtain ⟨s1, s2, s3⟩ := new_lst S4 hp l.rev
          exact kk rho4 _ _ s1 s2 s3
        · cases q
    · cases q
  · subst ex
    cases r1
    have I5 : Inv X pins sg H4 { s4 with heap := s4.heap.push { cls := .type "slice", data := .fields #[vl, vu, vs] } } := I4.kept (t' := s4.toks) fun b ob q => Heap.get?_push_of_some _ q
    obtain ⟨its, r, ht, hz⟩ := I5.list (.inl (.inl ha))
    have hlen := r.length
    show wpAny (model X.prog X.w) X.A (subscriptTail e (.Slice none none (some i) p2) (.ref a) (.ref s4.heap.objs.size)) (EP X pins sg Q) X.xe { s4 with heap := s4.heap.push { cls := .type "slice", data := .fields #[vl, vu, vs] } }
    refine tail_any (ops := [.ref a, .ref s4.heap.objs.size]) ht.isList.typeIs (PySem.slot_list_getitem.lookup) ?_ (by with_unfolding_all rfl)
    rcases ho with ⟨ho, hq⟩ | ⟨ho, hq⟩
    · subst ho
      refine wpAny_getItem_list_slice ht.isList (Heap.IsSliceOf.new _ vl vu vs) pl pu ps (by decide) ?_ (by rw [List.size_toArray]; omega)
      have e0 : slicePick its.toArray none none (some 1) = its.toArray := by
        have z : slicePick its.toArray none none (some 1) = slicePick its.toArray none none none := rfl
        rw [z, slicePick_cut]
        simp [HT.sIx]
      rw [e0]
      refine ⟨.ref _, _, I5.laid (t' := s4.toks) (o := .lst zs) (fun b ob q => Heap.get?_push_of_some _ q) (Nat.le_refl _) ?_, rfl, hq _ (I5.hok.fresh (Nat.le_refl _))⟩
      exact ⟨hz, _, 0, r, Heap.get?_push_size _ rfl⟩
    · subst ho
      refine wpAny_getItem_list_slice ht.isList (Heap.IsSliceOf.new _ vl vu vs) pl pu ps (by decide) ?_ (by rw [List.size_toArray]; omega)
      rw [PySem.W.krv_pick]
      refine ⟨.ref _, _, I5.laid (t' := s4.toks) (o := .lst zs.reverse) (fun b ob q => Heap.get?_push_of_some _ q) (Nat.le_refl _) ?_, rfl, hq _ (I5.hok.fresh (Nat.le_refl _))⟩
      exact ⟨by rw [List.length_reverse]; exact hz, _, 0, r.reverse, Heap.get?_push_size _ rfl⟩⟩⟩
/-! ### f-strings -/
def fmtD (d : D) : Option D := match d with
  | .str y => if lim y.length then some (.str y) else none
  | .int i => if Nat.blt i.natAbs.log2 1920 then some (.str (Str.ofString (toString i))) else none
  | _ => none
def dFmt (f : Env' → Hh → Rs D) : Env' → Hh → Rs D := fun de h => (f de h).bd fun d h1 => ofO (fmtD d) h1
theorem de_fmt (he : DE g X W e f) : DE g X W (.FormattedValue e (-1) none pos) (dFmt f) := ⟨fun cx => PE.imp (pe_fmt (he.pe cx)) fun sg H Q ⟨rho, de, h, S, E, A⟩ => by
  refine okE.bd S E A fun rho1 H1 d v h1 S1 e1 E1 r1 A1 => ?_
  obtain ⟨y, q, kk⟩ := A1.ofO
  unfold fmtD at q
  split at q
  · rename_i y
    split at q
    · rename_i hz
      cases q
      exact .inl ⟨y, r1.str_, lim_le hz, kk rho1 H1 _ S1 (Ext.refl _ _) Rp.str'⟩
    · cases q
  · rename_i j
    split at q
    · rename_i hz
      cases q
      exact .inr ⟨j, r1.int_, Nat.le_of_ble_eq_true hz, kk rho1 H1 _ S1 (Ext.refl _ _) Rp.str'⟩
    · cases q
  · cases q⟩
/-- the parts, put behind acc -/
structure DJ (g : G) (X : Cx) (W : WX) (es : List Expr) (f : Str → Env' → Hh → Rs D) : Prop where
  pj : Cok g X W → ∃ ts, PJ X es ts ∧ ∀ acc sg H Q, (∃ rho de h, Sim g rho h H ∧ EnvR g rho H de sg ∧ Aft g rho H (Rp g) (fun c d H' => W c d sg H') (f acc de h) Q) → tJs ts acc sg H fun out H1 => Q (.str out) H1
def jNil : Str → Env' → Hh → Rs D := fun acc _ h => .ok (.str acc) h
def jCons (f : Env' → Hh → Rs D) (r : Str → Env' → Hh → Rs D) : Str → Env' → Hh → Rs D := fun acc de h => (f de h).bd fun d h1 => match d with
  | .str y => if lim (acc ++ y).length then r (acc ++ y) de h1 else .no
  | _ => .no
theorem dj_nil : DJ g X W [] jNil := ⟨fun _ => ⟨[], .nil, fun acc sg H Q ⟨rho, de, h, S, E, A⟩ => A rho H _ S (Ext.refl _ _) Rp.str'⟩⟩
theorem dj_cons {r : Str → Env' → Hh → Rs D} (h1 : DE g X W e f) (h2 : DJ g X W es r) : DJ g X W (e :: es) (jCons f r) := ⟨fun cx => by
  obtain ⟨ts, p, q⟩ := h2.pj cx
  refine ⟨_ :: ts, .cons (h1.pe cx) p, fun acc sg H Q ⟨rho, de, h, S, E, A⟩ => ?_⟩
  refine okE.bd S E A fun rho1 H1 d v h1 S1 e1 E1 r1 A1 => ?_
  cases d with
  | str y =>
    have A2 : Aft g rho1 H1 (Rp g) (fun c d H' => W c d sg H') (if lim (acc ++ y).length then r (acc ++ y) de h1 else .no) Q := A1
    split at A2
    · rename_i hz
      exact ⟨y, r1.str_, lim_le hz, q _ _ _ _ ⟨rho1, de, h1, S1, E1, A2⟩⟩
    · exact False.elim A2
  | _ => exact False.elim A1⟩
def dJoin (r : Str → Env' → Hh → Rs D) : Env' → Hh → Rs D := fun de h => r Str.empty de h
theorem de_joined {v1 v2 : Expr} {rest : List Expr} {r : Str → Env' → Hh → Rs D} (h : DJ g X W (v1 :: v2 :: rest) r) : DE g X W (.JoinedStr (v1 :: v2 :: rest) pos) (dJoin r) := ⟨fun cx => by
  obtain ⟨ts, p, q⟩ := h.pj cx
  exact PE.imp (pe_joined p) fun sg H Q ⟨rho, de, h, S, E, A⟩ => q _ _ _ _ ⟨rho, de, h, S, E, A⟩⟩
theorem de_joined1 (h : DE g X W e f) : DE g X W (.JoinedStr [e] pos) f := ⟨fun cx => pe_fs1 (h.pe cx)⟩
/-! ### stores -/
/-- d[y] = v, d an object -/
def setIt (d y v : D) (h : Hh) : Option Hh := match d with
  | .ref i => match h[i]? with
    | some (.lst xs) => (match y with
      | .int j => (ixN xs.length j).map fun k => h.set i (.lst (xs.set k v))
      | _ => none)
    | some (.dct false kvs) => (keyOf y).bind fun c => if lim (kvs.length + 1) then some (h.set i (.dct false (putP keyOf kvs y c v))) else none
    | some (.dct true kvs) => (tkeyOf y).bind fun c => if lim (kvs.length + 1) then some (h.set i (.dct true (putP tkeyOf kvs y c v))) else none
    | _ => none
  | _ => none
theorem PSet.or {t t' : TSet} (h : PSet X t) (h' : PSet X t') : PSet X fun o i v H Q => t o i v H Q ∨ t' o i v H Q := by
  intro pins s sg H o i v ov iv u Q I ro ri rv q
  rcases q with q | q
  · exact h pins s sg H o i v ov iv u Q I ro ri rv q
  · exact h' pins s sg H o i v ov iv u Q I ro ri rv q
theorem setIt_ok {rho : Rho} {H : Hp} {h h' : Hh} {d y v : D} {dv yv vv : V} (S : Sim g rho h H) (rd : Rp g rho H d dv) (ry : Rp g rho H y yv) (rv : Rp g rho H v vv) (e : setIt d y v h = some h') {Q : Hp → Prop} (hq : ∀ rho' H', Sim g rho' h' H' → Ext rho H rho' H' → Q H') :
    rSetL dv yv vv H Q ∨ rSetD dv yv vv H Q := by
  cases d with
  | ref i =>
    unfold setIt at e
    cases q : h[i]? with
    | none => simp only [q] at e; cases e
    | some o =>
      cases o with
      | lst xs =>
        simp only [q] at e
        cases y with
        | int j =>
          simp only at e
          cases q2 : ixN xs.length j with
          | none => rw [q2] at e; cases e
          | some k =>
            rw [q2] at e
            cases e
            obtain ⟨a, vs, k1, k2, k3⟩ := S.obj i _ q
            unfold Rp at rd
            have ev := rd.2 a k1
            subst ev
            rw [ry.int_]
            obtain ⟨s1, s2⟩ := lst_wr S k1 k2 (k3.set rv k)
            exact .inl ⟨a, vs, j, k, rfl, rfl, k2, by rw [← k3.length]; exact q2, hq _ _ s1 s2⟩
        | _ => cases e
      | dct t kvs =>
        obtain ⟨a, vs, o, k1, k2, k3, k4⟩ := S.obj i _ q
        unfold Rp at rd
        have ev := rd.2 a k1
        subst ev
        cases t with
        | false =>
          simp only [q] at e
          cases q2 : keyOf y with
          | none => rw [q2] at e; cases e
          | some c =>
            rw [q2] at e
            simp only [Option.bind_some] at e
            split at e
            · rename_i hz
              cases e
              obtain ⟨k5, kk, k6, rfl⟩ := k3
              obtain ⟨kk', ws, p1, p2, p3⟩ := put_ok q2 rv k6 k4
              have ex : Ext rho H rho (upd H a (.dK (putK (kk.zip vs) c vv))) := Ext.write k1 (fun ob u z => by rw [k2] at z; cases z)
              have hl : (kk.zip vs).length = kvs.length := by
                have := allOf_len k6
                rw [List.length_map] at this k5
                rw [List.length_zip]
                omega
              refine .inr ⟨a, _, rfl, .inl ⟨kk.zip vs, c, k2, keyOf_v q2 ry, by have := lim_le hz; omega, rfl⟩, hq rho _ (S.write k1 ⟨a, ws, _, k1, upd_same, ⟨by rw [← p2.length, List.length_map, List.length_map], kk', p1, by rw [p3]⟩, p2.ext ex⟩ (fun _ z => nomatch z)) ex⟩
            · cases e
        | true =>
          simp only [q] at e
          cases q2 : tkeyOf y with
          | none => rw [q2] at e; cases e
          | some c =>
            rw [q2] at e
            simp only [Option.bind_some] at e
            split at e
            · rename_i hz
              cases e
              obtain ⟨k5, kk, k6, rfl⟩ := k3
              obtain ⟨kk', ws, p1, p2, p3⟩ := put_ok q2 rv k6 k4
              have ex : Ext rho H rho (upd H a (.dT (putK (kk.zip vs) c vv))) := Ext.write k1 (fun ob u z => by rw [k2] at z; cases z)
              have hl : (kk.zip vs).length = kvs.length := by
                have := allOf_len k6
                rw [List.length_map] at this k5
                rw [List.length_zip]
                omega
              obtain ⟨b, rfl, hb⟩ := tkeyOf_v q2 ry
              refine .inr ⟨a, _, rfl, .inr ⟨kk.zip vs, c, b, k2, rfl, hb, by have := lim_le hz; omega, rfl⟩, hq rho _ (S.write k1 ⟨a, ws, _, k1, upd_same, ⟨by rw [← p2.length, List.length_map, List.length_map], kk', p1, by rw [p3]⟩, p2.ext ex⟩ (fun _ z => nomatch z)) ex⟩
            · cases e
      | _ => simp only [q] at e; cases e
  | _ => cases e
def gSb (fo fi : Env' → Hh → Rs D) : GD := fun v de h => match fo de h with
  | .ok d h1 => (match fi de h1 with
    | .ok y h2 => (setIt d y v h2).map fun h3 => (de, h3)
    | _ => none)
  | _ => none
theorem dg_sub (ho : DE g X W o fo) (hi : DE g X W i fi)
    (ha : ∀ v, assign (.Subscript o i pos) X.env v = (do
      let ov ← holding [v] (eval o X.env)
      let iv ← holding [v, ov] (eval i X.env)
      standAt pos
      holding [v, ov, iv] (setItem ov iv v)
      release [v, ov, iv] []) := by intro _; rfl) : DG g X W (.Subscript o i pos) (gSb fo fi) [] := ⟨fun cx => by
  refine PG.imp (pg_sub (ho.pe cx) (hi.pe cx) (PSet.or set_list (set_dict (by have := cx.room.units; omega))) ha) fun v sg H Q ⟨rho, d, de, h, de', h', S, E, r, q, A⟩ => ?_
  unfold gSb at q
  refine ⟨rho, de, h, S, E, ?_⟩
  cases q1 : fo de h with
  | ok d1 h1 =>
    simp only [q1] at q
    intro rho1 H1 v1 S1 e1 r1
    have E1 := E.ext e1
    refine ⟨rho1, de, h1, S1, E1, ?_⟩
    cases q2 : fi de h1 with
    | ok y h2 =>
      simp only [q2] at q
      intro rho2 H2 v2 S2 e2 r2
      have E2 := E1.ext e2
      cases q3 : setIt d1 y d h2 with
      | none => rw [q3] at q; cases q
      | some h3 =>
        rw [q3] at q
        cases q
        exact setIt_ok S2 (Rp.ext e2 _ _ r1) r2 (Rp.ext (e1.trans e2) _ _ r) q3 fun rho3 H3 S3 e3 => A rho3 H3 sg S3 ((e1.trans e2).trans e3) (E2.ext e3) (SlotEq.refl _ _)
    | _ => simp only [q2] at q; cases q
  | _ => simp only [q1] at q; cases q⟩
/-- name op= e: what stands is built anew -/
def IpD (g : G) (X : Cx) (op : Value → Value → Sem Value) (F : D → D → Hh → Option D) : Prop := OpD g X op F
def sAug (j : Nat) (F : D → D → Hh → Option D) (f : Env' → Hh → Rs D) : Env' → Hh → Sr := fun de h => match de[j]? with
  | some (some x) => (f de h).st de fun y h1 => match F x y h1 with
    | some z => .nx (de.set j (some z)) h1
    | none => .no
  | _ => .no
theorem ds_aug {op : Operator} {F : D → D → Hh → Option D} (j : Nat) (ho : Cok g X W → OpD g X (inplaceOp op) F) (he : DE g X W e f) (hi : X.N[j]? = some x := by rfl) (hx : Loc X.env.scope x := by first | exact Or.inl rfl | exact Or.inr rfl) (hf : X.fn x = true ∨ X.env.scope.names.lookup x = some .local := by first | exact .inl rfl | exact .inr rfl | assumption) :
    DS g X W (.AugAssign (.Name x p) op e pos) (sAug j F f) := ⟨fun cx => PS.imp (ps_aug cx.nd hi hx (he.pe cx) (ho cx) hf) fun Ds sg H ⟨rho, de, h, S, E, A⟩ => by
  have A0 : AftS g W rho H Ds (match de[j]? with
    | some (some x) => (f de h).st de fun y h1 => match F x y h1 with
      | some z => .nx (de.set j (some z)) h1
      | none => .no
    | _ => .no) := A
  cases q : de[j]? with
  | none => simp only [q] at A0; exact False.elim A0
  | some q0 =>
    cases q0 with
    | none => simp only [q] at A0; exact False.elim A0
    | some x =>
      simp only [q] at A0
      obtain ⟨v, e1, r1⟩ := E.at_ j x q
      refine ⟨v, e1, ?_⟩
      refine okE.st S E A0 fun rho1 H1 y u h1 S1 e2 E1 r2 A1 => ?_
      cases q2 : F x y h1 with
      | none => rw [q2] at A1; exact False.elim A1
      | some z =>
        rw [q2] at A1
        exact ⟨rho1, h1, x, y, z, S1, Rp.ext e2 _ _ r1, r2, q2, fun rho2 H2 v2 S2 e3 r3 => A1 rho2 H2 _ S2 e3 ((E1.ext e3).set r3)⟩⟩
def oIAdd (x y : D) (_ : Hh) : Option D := match x, y with
  | .int i, .int j => some (.int (i + j))
  | _, _ => none
def oISub (x y : D) (_ : Hh) : Option D := match x, y with
  | .int i, .int j => some (.int (i - j))
  | _, _ => none
theorem oIAdd_ok : OpD g X (inplaceOp .Add) oIAdd := by
  intro pins s sg H x y v u Q I rx ry hh
  obtain ⟨rho, h, d1, d2, d, S, r1, r2, eq, A⟩ := hh
  unfold oIAdd at eq
  split at eq
  · cases eq
    rw [r1.int_] at rx
    rw [r2.int_] at ry
    exact iop_add pins s sg H _ _ v u Q I rx ry ⟨_, _, rfl, rfl, A rho H _ S (Ext.refl _ _) Rp.int'⟩
  · cases eq
theorem oISub_ok : OpD g X (inplaceOp .Sub) oISub := by
  intro pins s sg H x y v u Q I rx ry hh
  obtain ⟨rho, h, d1, d2, d, S, r1, r2, eq, A⟩ := hh
  unfold oISub at eq
  split at eq
  · cases eq
    rw [r1.int_] at rx
    rw [r2.int_] at ry
    exact iop_sub pins s sg H _ _ v u Q I rx ry ⟨_, _, rfl, rfl, A rho H _ S (Ext.refl _ _) Rp.int'⟩
  · cases eq
end
end DL

set_option maxHeartbeats 1000000
/-! o[i] of an own class, constants of classes, isinstance, dicts made and read. -/
namespace DL
open PySem PySem.Spec PyProof.Rows L2 ClX
section
variable {g : G} {X : Cx} {W : WX} {k : Nat} {x name : Str} {p p2 pos cpos apos : Pos} {e o i value : Expr} {es : List Expr} {fs : Env' → Hh → Rs (List D)} {fo fi f fa fb : Env' → Hh → Rs D} {F : Fn}
/-! ### o[i] by the class's own def -/
def tOwn (C : Addr) (sp : Sp) (E : XK) (ta tb : TE) : TE := fun σ H Q => ta σ H fun x H1 => tb σ H1 fun y H2 => ∃ a dx fs, x = .ref a ∧ H2 a = some (.ins C dx fs) ∧ sp [.ref a, y] H2 Q E
theorem pe_own {CX : CXT} {C f : Addr} {fd : FuncData} {ps : List Str} {sp : Sp} {E : XK} {ta tb : TE} (ho : PE X o ta) (hi : PE X i tb) (hs : PySem.W.findIn X.K (.ref C) "__getitem__" = some (some (.ref f))) (hf : PySem.W.fnIn X.K f = true) (hfn : PySem.W.isFn X.K (.ref f) = true)
    (hgd : X.A.guards = some []) (Fo : FnOkG X.prog X.w X.K X.mg X.base CX k f fd ps sp) (hr : Room (k + 1) X.A) (hb : Binds X.K fd ps []) (hx : Passes CX X E)
    (hsl : ∀ a j, subscripted i true (.ref a) j = runValue (.builtin "lifetime.subscript" ⟨[.ref a, j], []⟩) := by intro _ _; with_unfolding_all rfl) : PE X (.Subscript o i pos) (tOwn C sp E ta tb) := by
  refine ⟨fun pins s σ H Q I h => ?_⟩
  refine Subscript_ (thn (ho.run pins s σ H _ I h) fun v s1 ⟨x, H1, I1, r1, q1⟩ => thn (hi.run pins s1 σ H1 _ I1 q1) fun u s2 ⟨y, H2, I2, r2, a, dx, fs, ex, ea, q⟩ => ?_)
  subst ex
  cases r1
  obtain ⟨mA, O, _⟩ := ins_get I2.hok ea
  obtain ⟨od, J, _⟩ := O.look
  obtain ⟨m, hF⟩ := I2.fr
  refine PySem.W.sub_K hF I2.ok.mod.kin J hs hf hfn ?_ (hsl a u)
  have r3 : Vals [V.ref a, y] [Value.ref a, u] := .cons rfl (.cons r2 .nil)
  have hl : ([Value.ref a, u] ++ ([] : List Value)).length = ps.length := by rw [← Fo.len _ _ _ _ q]; rfl
  refine wpAny_call (codeAny_mono (Fo.run X.A.in1 X.stack s2 H2 ⟨[.ref a, u], []⟩ ([.ref a, u] ++ []) [.ref a, y] Q E hr.in1 hgd I2.env0.in1 (hb s2 [.ref a, u] I2.kIn hl) r3 q) fun r s' hq => ?_)
  cases r with
  | error er => exact hx pins σ H2 s2 er s' I2 hq
  | ok fl =>
    cases fl with
    | ret w => exact I2.after hq
    | next => exact False.elim hq
    | brk => exact False.elim hq
    | cont => exact False.elim hq
structure GtA (g : G) (P : Program) (w : World) (mg : Str → Option Value) (base : Heap) (k : Nat) (c : Nat) (F : Fn) : Prop where
  ex : ∃ (f : Addr) (fd : FuncData) (ps : List Str), ps.length = 2 ∧ FnOkG P w g.K mg base (L2.CX P w) k f fd ps (spD g ps.length F) ∧ PySem.W.findIn g.K (.ref (g.ca c)) "__getitem__" = some (some (.ref f)) ∧ PySem.W.fnIn g.K f = true ∧ PySem.W.isFn g.K (.ref f) = true ∧ Binds g.K fd ps []
def dOwn (c : Nat) (F : Fn) (fo fi : Env' → Hh → Rs D) : Env' → Hh → Rs D := fun de h => (fo de h).bd fun d h1 => (fi de h1).bd fun y h2 => match insOf h2 d with
  | some (_, c', _) => if c' = c then F [d, y] h2 else .no
  | none => .no
theorem de_own {c : Nat} (A : GtA g X.prog X.w X.mg X.base k c F) (hr : Room (k + 1) X.A) (ho : DE g X W o fo) (hi : DE g X W i fi)
    (hsl : ∀ a j, subscripted i true (.ref a) j = runValue (.builtin "lifetime.subscript" ⟨[.ref a, j], []⟩) := by intro _ _; with_unfolding_all rfl) : DE g X W (.Subscript o i pos) (dOwn c F fo fi) := ⟨fun cx => by
  obtain ⟨f, fd, ps, hp, ok, hs, hf, hfn, hb⟩ := A.ex
  rw [cx.K] at ok hs hf hfn hb
  refine PE.imp (pe_own (ho.pe cx) (hi.pe cx) hs hf hfn cx.gd ok hr hb (passes_call (E := fun c d H => ∀ sg, W c d sg H) cx.tk fun _ _ _ _ h => h _) hsl) fun sg H Q ⟨rho, de, h, S, E, A⟩ => ?_
  refine okE.bd S E A fun rho1 H1 d v h1 S1 e1 E1 r1 A1 => ?_
  refine okE.bd S1 E1 A1 fun rho2 H2 y u h2 S2 e2 E2 r2 A2 => ?_
  cases q1 : insOf h2 d with
  | none => rw [q1] at A2; exact False.elim A2
  | some pp =>
    obtain ⟨j, c', gs⟩ := pp
    rw [q1] at A2
    have A3 : Aft g rho2 H2 (Rp g) (fun c d H' => W c d sg H') (if c' = c then F [d, y] h2 else .no) Q := A2
    by_cases z : c' = c
    · subst z
      rw [if_pos rfl] at A3
      obtain ⟨rfl, q2⟩ := insOf_inv q1
      have r1' := Rp.ext e2 _ _ r1
      obtain ⟨a, dx, ws, ev, h3, h4, h5, h6⟩ := ref_ins S2 r1' q2
      subst ev
      exact ⟨a, dx, ws, rfl, h4, by rw [hp]; rfl, rho2, [.ref j, y], h2, S2, RpL.cons r1' (RpL.cons r2 RpL.nil), A3.wu cx.wu⟩
    · rw [if_neg z] at A3
      exact False.elim A3⟩
/-! ### C.f, a constant of a class -/
def dCon (d : D) (fo : Env' → Hh → Rs D) (c : Nat) : Env' → Hh → Rs D := fun de h => (fo de h).bd fun x h1 => match x with
  | .cls c' => if c' = c then .ok d h1 else .no
  | _ => .no
theorem de_cval {c : Nat} {y : Str} {j : Int} {mc : Value} {u : Value} (ho : DE g X W o fo) (r : CRead g.K (g.ca c) mc) (kv : CVal g.K (g.ca c) mc y (.int j) u) (hb : attributeBase o y X.env (eval o X.env) = eval o X.env := by rfl) : DE g X W (.Attribute o y pos) (dCon (.int j) fo c) := ⟨fun cx => by
  rw [cx.K] at r kv
  refine PE.imp (pe_cval (ho.pe cx) hb) fun sg H Q ⟨rho, de, h, S, E, A⟩ => ?_
  refine okE.bd S E A fun rho1 H1 d v h1 S1 e1 E1 r1 A1 => ?_
  cases d with
  | cls c' =>
    have A2 : Aft g rho1 H1 (Rp g) (fun c d H' => W c d sg H') (if c' = c then .ok (.int j) h1 else .no) Q := A1
    by_cases z : c' = c
    · subst z
      rw [if_pos rfl] at A2
      exact ⟨g.ca c', mc, .int j, u, r1.cls_, r, kv, A2 rho1 H1 _ S1 (Ext.refl _ _) Rp.int'⟩
    · rw [if_neg z] at A2
      exact False.elim A2
  | _ => exact False.elim A1⟩
/-! ### dicts -/
theorem dm_new (t : Bool) : DM g X W t (.Dict [] [] pos) (fun _ h => .ok [] h) := ⟨fun cx => by
  cases t with
  | false => exact PE.imp pe_dnewK fun sg H Q ⟨rho, de, h, S, E, A⟩ => A rho H (.dK []) S (Ext.refl _ _) ⟨[], ⟨rfl, [], rfl, rfl⟩, RpL.nil⟩
  | true => exact PE.imp pe_dnewT fun sg H Q ⟨rho, de, h, S, E, A⟩ => A rho H (.dT []) S (Ext.refl _ _) ⟨[], ⟨rfl, [], rfl, rfl⟩, RpL.nil⟩⟩
def RPs (g : G) (rho : Rho) (H : Hp) (kvs : List (D × D)) (ps : List (V × V)) : Prop := RpL g rho H (kvs.map (·.1)) (ps.map (·.1)) ∧ RpL g rho H (kvs.map (·.2)) (ps.map (·.2))
structure DPs (g : G) (X : Cx) (W : WX) (pos : Pos) (keys : List (Option Expr)) (values : List Expr) (f : Env' → Hh → Rs (List (D × D))) : Prop where
  pps : Cok g X W → ∃ trs, PPs X pos keys values trs ∧ ∀ sg H Q, (∃ rho de h, Sim g rho h H ∧ EnvR g rho H de sg ∧ Aft g rho H (RPs g) (fun c d H' => W c d sg H') (f de h) Q) → tPairs trs sg H Q
def pNil : Env' → Hh → Rs (List (D × D)) := fun _ h => .ok [] h
def pCons (fk fv : Env' → Hh → Rs D) (fp : Env' → Hh → Rs (List (D × D))) : Env' → Hh → Rs (List (D × D)) := fun de h => (fk de h).bd fun x h1 => (fv de h1).bd fun y h2 => (fp de h2).bd fun ps h3 => .ok ((x, y) :: ps) h3
theorem dps_nil : DPs g X W pos [] [] pNil := ⟨fun cx => ⟨[], pps_nil, fun sg H Q ⟨rho, de, h, S, E, A⟩ => A rho H [] S (Ext.refl _ _) ⟨RpL.nil, RpL.nil⟩⟩⟩
theorem dps_cons {ks : List (Option Expr)} {vs : List Expr} {fk fv : Env' → Hh → Rs D} {fp : Env' → Hh → Rs (List (D × D))} (hk : DE g X W e fk) (hv : DE g X W value fv) (hr : DPs g X W pos ks vs fp) : DPs g X W pos (some e :: ks) (value :: vs) (pCons fk fv fp) := ⟨fun cx => by
  obtain ⟨trs, p, q⟩ := hr.pps cx
  refine ⟨_, pps_cons (hk.pe cx) (hv.pe cx) p, fun sg H Q ⟨rho, de, h, S, E, A⟩ => ?_⟩
  refine okE.bd S E A fun rho1 H1 x v1 h1 S1 e1 E1 r1 A1 => ?_
  refine okE.bd S1 E1 A1 fun rho2 H2 y v2 h2 S2 e2 E2 r2 A2 => ?_
  refine q sg H2 _ ⟨rho2, de, h2, S2, E2, A2.bd fun rho3 H3 kvs ps h3 S3 e3 r3 A3 => ?_⟩
  exact A3 rho3 H3 _ S3 (Ext.refl _ _) ⟨RpL.cons (Rp.ext (e2.trans e3) _ _ r1) r3.1, RpL.cons (Rp.ext e3 _ _ r2) r3.2⟩⟩
def mergeP : List (D × D) → List (D × D) → Option (List (D × D))
  | acc, [] => some acc
  | acc, (k, x) :: r => match keyOf k with
    | some c => mergeP (putP keyOf acc k c x) r
    | none => none
def mDisp (fp : Env' → Hh → Rs (List (D × D))) : Env' → Hh → Rs (List (D × D)) := fun de h => (fp de h).bd fun ps h1 => if Nat.ble ps.length 15 then ofO (mergeP [] ps) h1 else .no
theorem mergeP_ok {rho : Rho} {H : Hp} : ∀ {ps : List (D × D)} {vps : List (V × V)} {acc res : List (D × D)} {kk : List Key} {ws : List V}, mergeP acc ps = some res → RPs g rho H ps vps → keysOf (acc.map (·.1)) = some kk → RpL g rho H (acc.map (·.2)) ws →
    ∃ (kvs : List (Key × V)) (kk' : List Key) (ws' : List V), vps = kvs.map (fun kv => (kV kv.1, kv.2)) ∧ kvs.length = ps.length ∧ keysOf (res.map (·.1)) = some kk' ∧ RpL g rho H (res.map (·.2)) ws' ∧ kk'.zip ws' = mergeK (kk.zip ws) kvs
  | [], vps, acc, res, kk, ws, e, r, hk, hr => by
    cases e
    have : vps = [] := by
      have := r.1.length
      rw [List.length_map, List.length_map] at this
      exact List.eq_nil_of_length_eq_zero this.symm
    exact ⟨[], kk, ws, this, rfl, hk, hr, rfl⟩
  | (k, x) :: ps, vps, acc, res, kk, ws, e, r, hk, hr => by
    unfold mergeP at e
    cases q : keyOf k with
    | none => rw [q] at e; cases e
    | some c =>
      rw [q] at e
      obtain ⟨r1, r2⟩ := r
      cases vps with
      | nil => exact absurd (r1.length) (by simp)
      | cons vp vps =>
        obtain ⟨a1, b1, c1, d1, e1⟩ := RpL.inv (show RpL g rho H (k :: ps.map (·.1)) (vp.1 :: vps.map (·.1)) from r1)
        obtain ⟨a2, b2, c2, d2, e2⟩ := RpL.inv (show RpL g rho H (x :: ps.map (·.2)) (vp.2 :: vps.map (·.2)) from r2)
        cases c1
        cases c2
        obtain ⟨kk1, ws1, p1, p2, p3⟩ := put_ok q d2 hk hr
        obtain ⟨kvs, kk2, ws2, q1, q2, q3, q4, q5⟩ := mergeP_ok e ⟨e1, e2⟩ p1 p2
        refine ⟨(c, vp.2) :: kvs, kk2, ws2, ?_, by rw [List.length_cons, List.length_cons, q2], q3, q4, ?_⟩
        · rw [List.map_cons, ← q1, ← keyOf_v q d1]
        · rw [q5, p3]
          rfl
theorem dm_disp {keys : List (Option Expr)} {values : List Expr} {fp : Env' → Hh → Rs (List (D × D))} (h : DPs g X W pos keys values fp) (hall : keys.all (·.isSome) = true := by rfl) (hl : keys.length = values.length := by rfl) (h0 : keys ≠ [] := by exact nofun)
    (h15 : keys.length ≤ 15 := by decide) : DM g X W false (.Dict keys values pos) (mDisp fp) := ⟨fun cx => by
  obtain ⟨trs, p, q⟩ := h.pps cx
  refine PE.imp (pe_disp p hall hl h0 h15) fun sg H Q ⟨rho, de, h, S, E, A⟩ => ?_
  intro P hP
  have off := S.off hP
  have S1 := S.in_ (o := .dK []) hP (fun _ z => nomatch z)
  have e1 : Ext rho H (rho.hide P) (upd H P (.dK [])) := Ext.in_ hP
  refine q sg _ _ ⟨rho.hide P, de, h, S1, E.ext e1, ?_⟩
  have A1 : Aft g rho H (RM g false) (fun c d H' => W c d sg H') ((fp de h).bd fun ps h1 => if Nat.ble ps.length 15 then ofO (mergeP [] ps) h1 else .no) (fun o H' => ∀ p, H' p = none → Q (.ref p) (upd H' p o)) := A
  cases q1 : fp de h with
  | no => rw [q1] at A1; exact False.elim A1
  | ex y h1 =>
    rw [q1] at A1
    exact fun rho' H' c d S' e' r => A1 rho' H' c d S' (e1.trans e') r
  | ok ps h1 =>
    rw [q1] at A1
    intro rho2 H2 vps S2 e2 r2
    have hid : rho2.hid P := e2.hid P (.inl rfl)
    have nl : some P ∉ rho2.l := e2.off1 P (.dK []) off.1 upd_same
    have hP2 : H2 P = some (.dK []) := e2.keep P _ off.1 upd_same
    have A2 : Aft g rho H (RM g false) (fun c d H' => W c d sg H') (if Nat.ble ps.length 15 then ofO (mergeP [] ps) h1 else .no) (fun o H' => ∀ p, H' p = none → Q (.ref p) (upd H' p o)) := A1
    split at A2
    · rename_i hz
      cases q3 : mergeP [] ps with
      | none => rw [q3] at A2; exact False.elim A2
      | some res =>
        rw [q3] at A2
        obtain ⟨kvs, kk, ws, k1, k2, k3, k4, k5⟩ := mergeP_ok (kk := []) (ws := []) q3 r2 rfl RpL.nil
        refine ⟨hP2, kvs, k1, by rw [k2]; exact Nat.le_of_ble_eq_true hz, ?_⟩
        have := A2 (rho2.show_ P) (without H2 P) (.dK (kk.zip ws)) (S2.go hid nl) (Ext.go hP off.2 hid (e1.trans e2)) ⟨ws, ⟨by rw [← k4.length, List.length_map, List.length_map], kk, k3, rfl⟩, RpL.bare (bare_go hid) _ _ k4⟩ P without_same
        rw [upd_without, k5] at this
        exact this
    · exact False.elim A2⟩
/-- d.get(k), d.get(k, x) -/
def mGet : FM := fun d ds h => match ds with
  | [y] => (dctOf h d).bind fun p => (dlook p.1 p.2 y).map fun r => (r.getD .non, h)
  | [y, z] => (dctOf h d).bind fun p => (dlook p.1 p.2 y).map fun r => (r.getD z, h)
  | _ => none
theorem mGet_ok (cx : Cok g X W) : MtD g X "dict.get" mGet := by
  intro pins s sg H x vs v us Q I rx rvs hh
  obtain ⟨rho, h, d, ds, d2, h2, S, r1, r2, eq, A⟩ := hh
  have hu : X.A.units + 1 < cLine := by have := cx.room.units; omega
  unfold mGet at eq
  split at eq
  · rename_i y
    cases q : dctOf h d with
    | none => rw [q] at eq; cases eq
    | some p =>
      obtain ⟨t, kvs⟩ := p
      rw [q] at eq
      cases q2 : dlook t kvs y with
      | none => simp [q2] at eq
      | some r =>
        simp only [Option.bind_some, q2, Option.map_some] at eq
        cases eq
        obtain ⟨a, ws, o, rfl, hr, ho, hv⟩ := dct_ok S r1 q
        obtain ⟨yv, w, rfl, r3, r4⟩ := r2.inv
        rw [r4.inv0] at rvs
        cases rx
        obtain ⟨u, rfl, ru⟩ := rvs.one
        rcases dget_ok q2 hr ho hv r3 with ⟨rfl, g1⟩ | ⟨d3, v3, rfl, g1, r5⟩
        · exact d_get1 hu I g1 ru fun w' s' I' rw' => ⟨_, H, I', rw', A rho H _ S (Ext.refl _ _) Rp.non'⟩
        · exact d_get1 hu I g1 ru fun w' s' I' rw' => ⟨_, H, I', rw', A rho H _ S (Ext.refl _ _) r5⟩
  · rename_i y z
    cases q : dctOf h d with
    | none => rw [q] at eq; cases eq
    | some p =>
      obtain ⟨t, kvs⟩ := p
      rw [q] at eq
      cases q2 : dlook t kvs y with
      | none => simp [q2] at eq
      | some r =>
        simp only [Option.bind_some, q2, Option.map_some] at eq
        cases eq
        obtain ⟨a, ws, o, rfl, hr, ho, hv⟩ := dct_ok S r1 q
        obtain ⟨yv, w, rfl, r3, r4⟩ := r2.inv
        obtain ⟨zv, w, rfl, r5, r6⟩ := r4.inv
        rw [r6.inv0] at rvs
        cases rx
        obtain ⟨u, u2, rfl, ru, ru2⟩ := rvs.two
        rcases dget_ok q2 hr ho hv r3 with ⟨rfl, g1⟩ | ⟨d3, v3, rfl, g1, r7⟩
        · exact d_get2 hu I g1 ru ru2 fun w' s' I' rw' => ⟨_, H, I', rw', A rho H _ S (Ext.refl _ _) r5⟩
        · exact d_get2 hu I g1 ru ru2 fun w' s' I' rw' => ⟨_, H, I', rw', A rho H _ S (Ext.refl _ _) r7⟩
  · cases eq
/-- dict(x), never written / an object -/
def bDictZ : FB := fun ds h => match ds with
  | [d] => (dctOf h d).bind fun p => if p.1 then none else some (.dct false (p.2.map (·.1)) (p.2.map (·.2)), h)
  | _ => none
def bDictA : FB := fun ds h => match ds with
  | [d] => (dctOf h d).bind fun p => if p.1 then none else some (.ref h.length, h ++ [.dct false p.2])
  | _ => none
theorem bDictZ_ok : CalD g X (.type "dict") bDictZ := by
  intro pins s sg H vs us Q I rv hh
  obtain ⟨rho, h, ds, d, h', S, r, eq, A⟩ := hh
  unfold bDictZ at eq
  split at eq
  · rename_i x
    cases q : dctOf h x with
    | none => rw [q] at eq; cases eq
    | some p =>
      obtain ⟨t, kvs⟩ := p
      rw [q] at eq
      cases t with
      | true => cases eq
      | false =>
        cases eq
        obtain ⟨v, w, rfl, r1, r2⟩ := r.inv
        rw [r2.inv0] at rv
        obtain ⟨a, ws, o, rfl, hr, ⟨ho1, kk, ho2, rfl⟩, hv⟩ := dct_ok S r1 q
        refine call_dictD pins s sg H _ us Q I rv ⟨a, _, rfl, hr, fun p hp => ?_⟩
        refine A rho _ _ (S.fresh hp) (Ext.fresh hp) ?_
        unfold Rp
        exact ⟨p, ws, rfl, ⟨_, upd_same, S.off hp, ho1, kk, ho2, rfl⟩, hv.ext (Ext.fresh hp)⟩
  · cases eq
theorem bDictA_ok : CalD g X (.type "dict") bDictA := by
  intro pins s sg H vs us Q I rv hh
  obtain ⟨rho, h, ds, d, h', S, r, eq, A⟩ := hh
  unfold bDictA at eq
  split at eq
  · rename_i x
    cases q : dctOf h x with
    | none => rw [q] at eq; cases eq
    | some p =>
      obtain ⟨t, kvs⟩ := p
      rw [q] at eq
      cases t with
      | true => cases eq
      | false =>
        cases eq
        obtain ⟨v, w, rfl, r1, r2⟩ := r.inv
        rw [r2.inv0] at rv
        obtain ⟨a, ws, o, rfl, hr, ⟨ho1, kk, ho2, rfl⟩, hv⟩ := dct_ok S r1 q
        refine call_dictD pins s sg H _ us Q I rv ⟨a, _, rfl, hr, fun p hp => ?_⟩
        obtain ⟨s1, s2, s3⟩ := new_dct (tt := false) (kvs := kvs) S hp ⟨ws, ⟨ho1, kk, ho2, rfl⟩, hv⟩
        exact A _ _ _ s1 s2 s3
  · cases eq
end
end DL

set_option maxHeartbeats 1000000
/-! == of two dicts of ints. -/
namespace DL
open PySem PySem.Spec PyProof.Rows L2
def eqI (l2 : List (D × D)) : List (D × D) → Option Bool
  | [] => some true
  | (k, x) :: r => (keyOf k).bind fun c => match lookP keyOf l2 c with
    | none => some false
    | some y => match x, y with
      | .int i, .int j => (eqI l2 r).map fun b => (i == j) && b
      | _, _ => none
def eqC (h : Hh) (x y : D) : Option Bool := (dctOf h x).bind fun p => (dctOf h y).bind fun q => if p.1 || q.1 then none else if p.2.length = q.2.length then eqI q.2 p.2 else some false
def oEqC (x y : D) (h : Hh) : Option D := match eqD h x y with
  | some b => some (.bl b)
  | none => (eqC h x y).map D.bl
def oNeC (x y : D) (h : Hh) : Option D := match eqD h x y with
  | some b => some (.bl (!b))
  | none => (eqC h x y).map fun b => D.bl (!b)
section
variable {g : G} {X : Cx} {W : WX} {rho : Rho} {H : Hp}
theorem hitsI {A : Around} {s : Shared} {kb : List (Key × Value)} {l2 : List (D × D)} (hb : ∀ c, (lookP keyOf l2 c = none → valueAt kb c = none) ∧ ∀ j, lookP keyOf l2 c = some (.int j) → ∃ t, valueAt kb c = some (.int j t)) :
    ∀ {l1 : List (D × D)} {kk : List Key} {vs : List V} {ka : List (Key × Value)} {b : Bool}, keysOf (l1.map (·.1)) = some kk → RpL g rho H (l1.map (·.2)) vs → KV (kk.zip vs) ka → eqI l2 l1 = some b → PySem.W.KeqHits A s kb ka b
  | [], kk, vs, ka, b, e, r, q, z => by
    cases z
    have : kk = [] := by cases e; rfl
    subst this
    have q' : KV [] ka := q
    cases q'
    exact .nil
  | (k, x) :: l1, kk, vs, ka, b, e, r, q, z => by
    obtain ⟨c, kr, rfl, e1, e2⟩ := allOf_cons (show allOf keyOf (k :: l1.map (·.1)) = some kk from e)
    obtain ⟨v, w, rfl, r1, r2⟩ := RpL.inv (show RpL g rho H (x :: l1.map (·.2)) vs from r)
    have q' : KV ((c, v) :: kr.zip w) ka := q
    unfold eqI at z
    rw [e1] at z
    cases q' with
    | @cons p u ps us h1 t1 =>
      obtain ⟨uk, uv⟩ := u
      obtain ⟨h1a, h1b⟩ := h1
      cases h1a
      simp only [Option.bind_some] at z
      cases q2 : lookP keyOf l2 c with
      | none =>
        simp only [q2] at z
        cases z
        exact .miss ((hb c).1 q2)
      | some y =>
        simp only [q2] at z
        split at z
        · rename_i i j
          cases q3 : eqI l2 l1 with
          | none => rw [q3] at z; cases z
          | some b' =>
            rw [q3] at z
            cases z
            obtain ⟨t, ht⟩ := (hb c).2 j q2
            have hv := r1.int_
            subst hv
            obtain ⟨t', ht'⟩ := h1b
            have ht2 : uv = Value.int i t' := ht'
            subst ht2
            exact .hit ht (SeqAt.EqAt.int_int i t' j t) (hitsI hb e2 r2 t1 q3)
        · cases z
theorem eqC_ok {h : Hh} {pins : List (Addr × Obj)} {sg : St} {s : Shared} (I : Inv X pins sg H s) (S : Sim g rho h H) {x y : D} {v u : V} {b : Bool} (rx : Rp g rho H x v) (ry : Rp g rho H y u) (e : eqC h x y = some b) :
    ∃ (a a2 : Addr) (ka kb : List (Key × Value)) (r : Bool), v = .ref a ∧ u = .ref a2 ∧ (a == sysModules) = false ∧ (a2 == sysModules) = false ∧ s.heap.DictOf (mixKind X.prog X.w) a ka ∧ s.heap.DictOf (mixKind X.prog X.w) a2 kb ∧ (ka.length = kb.length → PySem.W.KeqHits X.A.in1 s kb ka r) ∧ b = (ka.length == kb.length && r) := by
  unfold eqC at e
  cases q1 : dctOf h x with
  | none => rw [q1] at e; cases e
  | some p =>
    obtain ⟨t, kvs⟩ := p
    rw [q1] at e
    simp only [Option.bind_some] at e
    cases q2 : dctOf h y with
    | none => rw [q2] at e; cases e
    | some q =>
      obtain ⟨t2, kvs2⟩ := q
      rw [q2] at e
      simp only [Option.bind_some] at e
      obtain ⟨a, vs, o, ev, hr, ho, hv⟩ := dct_ok S rx q1
      obtain ⟨a2, vs2, o2, eu, hr2, ho2, hv2⟩ := dct_ok S ry q2
      cases t with
      | true => simp at e
      | false =>
        cases t2 with
        | true => simp at e
        | false =>
          obtain ⟨hl, kk, hk, rfl⟩ := ho
          obtain ⟨hl2, kk2, hk2, rfl⟩ := ho2
          obtain ⟨z, hd, ka, rel, dd⟩ := dk_rd I.hok hr
          obtain ⟨z2, hd2, kb, rel2, dd2⟩ := dk_rd I.hok hr2
          have la : ka.length = kvs.length := by
            rw [← rel.length, List.length_zip]
            have := allOf_len hk
            rw [List.length_map] at this hl
            omega
          have lb : kb.length = kvs2.length := by
            rw [← rel2.length, List.length_zip]
            have := allOf_len hk2
            rw [List.length_map] at this hl2
            omega
          simp only [Bool.or_self, Bool.false_eq_true, if_false] at e
          by_cases hlen : kvs.length = kvs2.length
          · rw [if_pos hlen] at e
            refine ⟨a, a2, ka, kb, b, ev, eu, hd, hd2, dd, dd2, fun _ => ?_, ?_⟩
            · refine hitsI (g := g) (rho := rho) (H := H) (l2 := kvs2) (fun c => ⟨fun hc => ?_, fun j hc => ?_⟩) hk hv rel e
              · rcases look_ok c hk2 hv2 with ⟨_, n2⟩ | ⟨d, w, n1, _⟩
                · have := rel2.val c
                  rw [n2] at this
                  cases q5 : valueAt kb c with
                  | none => rfl
                  | some w => rw [q5] at this; exact False.elim this
                · rw [hc] at n1; cases n1
              · rcases look_ok c hk2 hv2 with ⟨n1, _⟩ | ⟨d, w, n1, n2, n3⟩
                · rw [hc] at n1; cases n1
                · rw [hc] at n1
                  cases n1
                  have := rel2.val c
                  rw [n2, n3.int_] at this
                  cases q5 : valueAt kb c with
                  | none => rw [q5] at this; exact False.elim this
                  | some w =>
                    rw [q5] at this
                    obtain ⟨t, ht⟩ := this
                    exact ⟨t, by rw [show w = Value.int j t from ht]⟩
            · rw [la, lb, hlen]
              simp
          · rw [if_neg hlen] at e
            cases e
            refine ⟨a, a2, ka, kb, false, ev, eu, hd, hd2, dd, dd2, fun z => absurd (by omega) hlen, by simp⟩
theorem oEqC_ok (cx : Cok g X W) : OpD g X (compareOp .Eq) oEqC := by
  intro pins s sg H x y v u Q I rx ry hh
  obtain ⟨rho, h, d1, d2, d, S, r1, r2, eq, A⟩ := hh
  unfold oEqC at eq
  cases q : eqD h d1 d2 with
  | some b =>
    rw [q] at eq
    exact oEq_ok cx pins s sg H x y v u Q I rx ry ⟨rho, h, d1, d2, d, S, r1, r2, by unfold oEq; rw [q]; exact eq, A⟩
  | none =>
    rw [q] at eq
    cases q2 : eqC h d1 d2 with
    | none => rw [q2] at eq; cases eq
    | some b =>
      rw [q2] at eq
      cases eq
      obtain ⟨a, a2, ka, kb, r, rfl, rfl, h1, h2, h3, h4, h5, rfl⟩ := eqC_ok I S r1 r2 q2
      cases rx
      cases ry
      exact PySem.W.keq_eq h1 h2 h3 h4 (by have := cx.room.units; omega) h5 ⟨.bl _, H, I, rfl, A rho H _ S (Ext.refl _ _) Rp.bl'⟩
theorem oNeC_ok (cx : Cok g X W) : OpD g X (compareOp .NotEq) oNeC := by
  intro pins s sg H x y v u Q I rx ry hh
  obtain ⟨rho, h, d1, d2, d, S, r1, r2, eq, A⟩ := hh
  unfold oNeC at eq
  cases q : eqD h d1 d2 with
  | some b =>
    rw [q] at eq
    exact oNe_ok cx pins s sg H x y v u Q I rx ry ⟨rho, h, d1, d2, d, S, r1, r2, by unfold oNe; rw [q]; exact eq, A⟩
  | none =>
    rw [q] at eq
    cases q2 : eqC h d1 d2 with
    | none => rw [q2] at eq; cases eq
    | some b =>
      rw [q2] at eq
      cases eq
      obtain ⟨a, a2, ka, kb, r, rfl, rfl, h1, h2, h3, h4, h5, rfl⟩ := eqC_ok I S r1 r2 q2
      cases rx
      cases ry
      exact PySem.W.keq_ne h1 h2 h3 h4 (by have := cx.room.units; omega) h5 ⟨.bl _, H, I, rfl, A rho H _ S (Ext.refl _ _) Rp.bl'⟩
end
end DL

set_option maxHeartbeats 1000000
/-! Walks over dicts (locked), enumerate, zip. -/
namespace DL
open PySem PySem.Spec PyProof.Rows L2
section
variable {g : G} {X : Cx} {W : WX} {e a b c tg iter elt : Expr} {f fa fb fc : Env' → Hh → Rs D} {t : Env' → Hh → Rs Bool} {k u : Env' → Hh → Sr} {p pos : Pos} {st : Stmt} {rho : Rho} {H : Hp}
/-- the dict at a name, while it is walked -/
def lockOf (j : Nat) (de : Env') (h : Hh) : Option (Nat × Bool × List (D × D)) := match de[j]? with
  | some (some (.ref i)) => match h[i]? with
    | some (.dct t kvs) => some (i, t, kvs)
    | _ => none
  | _ => none
def unlk (i : Nat) (h : Hh) : Option Hh := match h[i]? with
  | some (.lock t kvs) => some (h.set i (.dct t kvs))
  | _ => none
def unlS (i : Nat) : Sr → Sr
  | .nx de h => match unlk i h with
    | some h' => .nx de h'
    | none => .no
  | .rt d h => match unlk i h with
    | some h' => .rt d h'
    | none => .no
  | .bk de h => match unlk i h with
    | some h' => .bk de h'
    | none => .no
  | .ct de h => match unlk i h with
    | some h' => .ct de h'
    | none => .no
  | _ => .no
def sLock (j : Nat) (k : Env' → Hh → Sr) : Env' → Hh → Sr := fun de h => match lockOf j de h with
  | some (i, t, kvs) => unlS i (k de (h.set i (.lock t kvs)))
  | none => .no
theorem lockOf_inv {j i : Nat} {de : Env'} {h : Hh} {t : Bool} {kvs : List (D × D)} (q : lockOf j de h = some (i, t, kvs)) : de[j]? = some (some (.ref i)) ∧ h[i]? = some (.dct t kvs) := by
  unfold lockOf at q
  split at q
  · rename_i i' q1
    split at q
    · rename_i t' kvs' q2
      cases q
      exact ⟨q1, q2⟩
    · cases q
  · cases q
theorem unlk_inv {i : Nat} {h h' : Hh} (q : unlk i h = some h') : ∃ t kvs, h[i]? = some (.lock t kvs) ∧ h' = h.set i (.dct t kvs) := by
  unfold unlk at q
  split at q
  · rename_i t kvs q1
    cases q
    exact ⟨t, kvs, q1, rfl⟩
  · cases q
theorem EnvR.ext' {rho' : Rho} {H' : Hp} {de : Env'} {sg : St} (E : EnvR g rho H de sg) (x : ∀ d v, Rp g rho H d v → Rp g rho' H' d v) : EnvR g rho' H' de sg := ⟨E.len, fun i d h => let ⟨v, h1, h2⟩ := E.at_ i d h; ⟨v, h1, x d v h2⟩⟩
theorem bare_unlock {rho' : Rho} {H' : Hp} {a : Addr} {o : HO} {i : Nat} (h : rho'.l[i]? = some (some a)) : Bare rho' H' rho' (upd H' a o) a := bare_at h
/-- a statement under the lock of the dict at the name -/
theorem ds_lock (j : Nat) (h : DS g X W st k) : DS g X W st (sLock j k) := ⟨fun cx => PS.imp (ps_lock (h.ps cx)) fun Ds sg H ⟨rho, de, h, S, E, A⟩ => by
  have A0 : AftS g W rho H Ds (match lockOf j de h with
    | some (i, t, kvs) => unlS i (k de (h.set i (.lock t kvs)))
    | none => .no) := A
  cases q : lockOf j de h with
  | none => rw [q] at A0; exact False.elim A0
  | some pp =>
    obtain ⟨i, t, kvs⟩ := pp
    rw [q] at A0
    obtain ⟨q1, q2⟩ := lockOf_inv q
    obtain ⟨a, o, k1, k2, k3, k4, k5⟩ := S.lock q2
    refine ⟨a, o, k2, k3, fun od => ?_⟩
    obtain ⟨S1, e1⟩ := k5 od
    refine ⟨rho, de, h.set i (.lock t kvs), S1, E.ext e1, ?_⟩
    have A1 : AftS g W rho H Ds (unlS i (k de (h.set i (.lock t kvs)))) := A0
    have fin : ∀ (rho' : Rho) (h' h2 : Hh) (H' : Hp), Sim g rho' h' H' → Ext rho (upd H a (.frz od o)) rho' H' → unlk i h' = some h2 → H' a = some (.frz od o) ∧ Sim g rho' h2 (upd H' a o) ∧ Ext rho H rho' (upd H' a o) ∧ ∀ d v, Rp g rho' H' d v → Rp g rho' (upd H' a o) d v := fun rho' h' h2 H' S' e' z => by
      obtain ⟨t', kvs', z1, rfl⟩ := unlk_inv z
      obtain ⟨u1, u2, u3⟩ := Sim.unlock k1 k2 k4 e' S' z1
      refine ⟨u1, u2, u3, fun d v r => ?_⟩
      obtain ⟨a', vs, o', ob, m1, m2, m3, m4⟩ := S'.obj i _ z1
      have hi : i < rho.l.length := (List.getElem?_eq_some_iff.mp k1).1
      have ea := e'.old i a' hi m1
      rw [k1] at ea
      cases ea
      exact Rp.bare (bare_at m1) d v r
    cases q3 : k de (h.set i (.lock t kvs)) with
    | nx d' h' =>
      rw [q3] at A1
      cases q4 : unlk i h' with
      | none => simp only [unlS, q4] at A1; exact False.elim A1
      | some h2 =>
        simp only [unlS, q4] at A1
        exact fun rho' H' sg' S' e' E' => let ⟨f1, f2, f3, f4⟩ := fin rho' h' h2 H' S' e' q4; ⟨f1, A1 rho' _ sg' f2 f3 (E'.ext' f4)⟩
    | bk d' h' =>
      rw [q3] at A1
      cases q4 : unlk i h' with
      | none => simp only [unlS, q4] at A1; exact False.elim A1
      | some h2 =>
        simp only [unlS, q4] at A1
        exact fun rho' H' sg' S' e' E' => let ⟨f1, f2, f3, f4⟩ := fin rho' h' h2 H' S' e' q4; ⟨f1, A1 rho' _ sg' f2 f3 (E'.ext' f4)⟩
    | ct d' h' =>
      rw [q3] at A1
      cases q4 : unlk i h' with
      | none => simp only [unlS, q4] at A1; exact False.elim A1
      | some h2 =>
        simp only [unlS, q4] at A1
        exact fun rho' H' sg' S' e' E' => let ⟨f1, f2, f3, f4⟩ := fin rho' h' h2 H' S' e' q4; ⟨f1, A1 rho' _ sg' f2 f3 (E'.ext' f4)⟩
    | rt d' h' =>
      rw [q3] at A1
      cases q4 : unlk i h' with
      | none => simp only [unlS, q4] at A1; exact False.elim A1
      | some h2 =>
        simp only [unlS, q4] at A1
        exact fun rho' H' v S' e' r' => let ⟨f1, f2, f3, f4⟩ := fin rho' h' h2 H' S' e' q4; ⟨f1, A1 rho' _ v f2 f3 (f4 _ _ r')⟩
    | ex x d' h' => rw [q3] at A1; exact False.elim A1
    | no => rw [q3] at A1; exact False.elim A1⟩
/-- .. a new list or dict made under it -/
def eLock {α : Type} (j : Nat) (f : Env' → Hh → Rs α) : Env' → Hh → Rs α := fun de h => match lockOf j de h with
  | some (i, t, kvs) => (match f de (h.set i (.lock t kvs)) with
    | .ok d h' => (match unlk i h' with
      | some h2 => .ok d h2
      | none => .no)
    | _ => .no)
  | none => .no
theorem dn_lock {fs : Env' → Hh → Rs (List D)} (j : Nat) (h : DN g X W e fs) : DN g X W e (eLock j fs) := ⟨fun cx => PE.imp (pe_lock (h.pe cx)) fun sg H Q ⟨rho, de, h, S, E, A⟩ => by
  have A0 := A
  unfold eLock at A0
  cases q : lockOf j de h with
  | none => simp only [q] at A0; exact False.elim A0
  | some pp =>
    obtain ⟨i, t, kvs⟩ := pp
    simp only [q] at A0
    obtain ⟨q1, q2⟩ := lockOf_inv q
    obtain ⟨a, o, k1, k2, k3, k4, k5⟩ := S.lock q2
    refine ⟨a, o, k2, k3, fun od => ?_⟩
    obtain ⟨S1, e1⟩ := k5 od
    refine ⟨rho, de, h.set i (.lock t kvs), S1, E.ext e1, ?_⟩
    cases q3 : fs de (h.set i (.lock t kvs)) with
    | ok d h' =>
      simp only [q3] at A0
      cases q4 : unlk i h' with
      | none => simp only [q4] at A0; exact False.elim A0
      | some h2 =>
        simp only [q4] at A0
        intro rho' H' vs S' e' r' P hP
        obtain ⟨t', kvs', z1, rfl⟩ := unlk_inv q4
        obtain ⟨u1, u2, u3⟩ := Sim.unlock k1 k2 k4 e' S' z1
        obtain ⟨a', vs', o', ob, m1, m2, m3, m4⟩ := S'.obj i _ z1
        have hi : i < rho.l.length := (List.getElem?_eq_some_iff.mp k1).1
        have ea := e'.old i a' hi m1
        rw [k1] at ea
        cases ea
        have ne : P ≠ a := fun z => by rw [z, u1] at hP; cases hP
        refine ⟨by rw [upd_ne ne.symm]; exact u1, ?_⟩
        have := A0 rho' (upd H' a o) vs u2 u3 (RpL.bare (bare_at m1) _ _ r') P (by rw [upd_ne ne]; exact hP)
        have cm : upd (upd H' P (.lst vs)) a o = upd (upd H' a o) P (.lst vs) := by
          funext x
          by_cases z1 : x = a
          · subst z1; rw [upd_same, upd_ne ne.symm, upd_same]
          · rw [upd_ne z1]
            by_cases z2 : x = P
            · subst z2; rw [upd_same, upd_same]
            · rw [upd_ne z2, upd_ne z2, upd_ne z1]
        rw [cm]
        exact this
    | ex x h' => simp only [q3] at A0; exact False.elim A0
    | no => simp only [q3] at A0; exact False.elim A0⟩
/-! ### the keys of a locked dict -/
def keysSrc (h : Hh) : D → Option Src
  | .ref i => match h[i]? with
    | some (.lock t kvs) => if lim kvs.length then some ⟨some (i, .lock t kvs), kvs.map (·.1)⟩ else none
    | _ => none
  | _ => none
def iKeysD (f : Env' → Hh → Rs D) : Env' → Hh → Rs Src := fun de h => (f de h).bd fun d h1 => ofO (keysSrc h1 d) h1
theorem key_rp {k : D} {c : Key} (e : keyOf k = some c) : Rp g rho H k (kV c) := by
  cases k with
  | int i => cases e; exact Rp.int'
  | str i => cases e; exact Rp.str'
  | _ => cases e
theorem keys_rpl : ∀ {ks : List D} {cs : List Key}, keysOf ks = some cs → RpL g rho H ks (cs.map kV)
  | [], cs, e => by cases e; exact RpL.nil
  | k :: ks, cs, e => by
    obtain ⟨c, kr, rfl, e1, e2⟩ := allOf_cons e
    exact RpL.cons (key_rp e1) (keys_rpl e2)
theorem allOf_at {κ : Type} [DecidableEq κ] {ko : D → Option κ} : ∀ {ds : List D} {kk : List κ} {i : Nat} {d : D}, allOf ko ds = some kk → ds[i]? = some d → ∃ c, kk[i]? = some c ∧ ko d = some c
  | [], kk, i, d, e, h => by simp at h
  | x :: ds, kk, i, d, e, h => by
    obtain ⟨c, kr, rfl, e1, e2⟩ := allOf_cons e
    cases i with
    | zero =>
      have : x = d := by simpa using h
      subst this
      exact ⟨c, rfl, e1⟩
    | succ i =>
      obtain ⟨c', z1, z2⟩ := allOf_at (i := i) e2 (by simpa using h)
      exact ⟨c', by simpa using z1, z2⟩
theorem zip_at {α β : Type} {l : List α} {m : List β} {i : Nat} {x : α} {y : β} (h : (l.zip m)[i]? = some (x, y)) : l[i]? = some x ∧ m[i]? = some y := by
  rw [List.getElem?_zip_eq_some] at h
  exact h
theorem di_keys (he : DE g X W e f) : DI g X W tg e (iKeysD f) := ⟨fun cx => PI.imp (pi_keys (he.pe cx)) fun sg H R ⟨rho, de, h, S, E, A⟩ => by
  refine okE.bd S E A fun rho1 H1 d v h1 S1 e1 E1 r1 A1 => ?_
  cases d with
  | ref i =>
    cases q : h1[i]? with
    | none => simp only [keysSrc, q] at A1; exact False.elim A1
    | some o =>
      cases o with
      | lock t kvs =>
        simp only [keysSrc, q] at A1
        obtain ⟨a, vs, o, ob, k1, k2, k3, k4⟩ := S1.obj i _ q
        unfold Rp at r1
        have ev := r1.2 a k1
        subst ev
        split at A1
        · rename_i hz
          have hz' : (kvs.map (·.1)).length ≤ sizeLine := by rw [List.length_map]; exact lim_le hz
          have key : ∀ J : It, Feeds g rho1 H1 ⟨some (i, .lock t kvs), kvs.map (·.1)⟩ J → R J H1 := fun J fd => A1 rho1 H1 J S1 (Ext.refl _ _) fd
          have later : ∀ (rho' : Rho) (h' : Hh) (H' : Hp), Sim g rho' h' H' → Ext rho1 H1 rho' H' → h'[i]? = some (.lock t kvs) → H' a = some (.frz ob o) := fun rho' h' H' S' e' _ => e'.frz a ob o k2
          obtain ⟨l1, kd⟩ := k3
          cases t with
          | false =>
            obtain ⟨kk, k6, rfl⟩ := kd
            refine ⟨a, ob, rfl, .inl ⟨kk.zip vs, k2, key _ ⟨hz', fun rho' h' H' S' e' ok => ?_⟩⟩⟩
            have fz := later rho' h' H' S' e' ok
            have hl : (kk.zip vs).length = (kvs.map (·.1)).length := by
              have := allOf_len k6
              rw [List.length_zip]; omega
            refine ⟨fun n x hx => ⟨⟨fz, by rw [hl]; exact (List.getElem?_eq_some_iff.mp hx).1⟩, fun v H2 ⟨e2, c, w, y1, y2⟩ => ?_⟩, fz, by rw [hl]; exact Nat.le_refl _⟩
            subst e2 y2
            obtain ⟨y3, y4⟩ := zip_at y1
            obtain ⟨c', z1, z2⟩ := allOf_at k6 hx
            rw [y3] at z1
            cases z1
            exact ⟨S', Ext.refl _ _, key_rp z2⟩
          | true =>
            obtain ⟨kk, k6, rfl⟩ := kd
            refine ⟨a, ob, rfl, .inr ⟨kk.zip vs, k2, key _ ⟨hz', fun rho' h' H' S' e' ok => ?_⟩⟩⟩
            have fz := later rho' h' H' S' e' ok
            have hl : (kk.zip vs).length = (kvs.map (·.1)).length := by
              have := allOf_len k6
              rw [List.length_zip]; omega
            refine ⟨fun n x hx => ⟨⟨fz, by rw [hl]; exact (List.getElem?_eq_some_iff.mp hx).1⟩, fun v H2 ⟨e2, c, w, b, y1, y2, y5⟩ => ?_⟩, fz, by rw [hl]; exact Nat.le_refl _⟩
            subst e2 y2
            obtain ⟨y3, y4⟩ := zip_at y1
            obtain ⟨c', z1, z2⟩ := allOf_at k6 hx
            rw [y3] at z1
            cases z1
            refine ⟨S', Ext.refl _ _, ?_⟩
            cases x with
            | tup xs =>
              have z3 : keysOf xs = some c := z2
              unfold Rp
              refine ⟨b, c.map kV, rfl, ⟨y5, ?_, ?_⟩, keys_rpl z3⟩
              · intro hm
                obtain ⟨m, hm⟩ := List.getElem?_of_mem hm
                obtain ⟨o2, w1, w2⟩ := S'.liv m b hm
                rw [y5] at w1
                cases w1
                exact w2 _ rfl
              · intro hm
                obtain ⟨o2, w1, w2⟩ := S'.hoc b hm
                rw [y5] at w1
                cases w1
                exact w2 _ rfl
            | _ => cases z2
        · exact False.elim A1
      | _ => simp only [keysSrc, q] at A1; exact False.elim A1
  | _ => exact False.elim A1⟩
/-! ### enumerate, zip: lists, never written or as they stand -/
def enumD (xs : List D) : List D := (List.range xs.length).zipWith (fun (i : Nat) x => D.tup [.int i, x]) xs
def frzL (h : Hh) : D → Option (List D)
  | .lst xs => some xs
  | _ => none
def iEnumD (fs : Env' → Hh → Rs (List D)) : Env' → Hh → Rs Src := fun de h => (fs de h).bd fun ds h1 => match ds with
  | [.lst xs] => if lim xs.length then .ok ⟨none, enumD xs⟩ h1 else .no
  | _ => .no
theorem new_tup' {h : Hh} {p : Addr} {xs : List D} {vs : List V} (S : Sim g rho h H) (n : H p = none) (r : RpL g rho H xs vs) : Sim g rho h (upd H p (.tup vs)) ∧ Ext rho H rho (upd H p (.tup vs)) ∧ Rp g rho (upd H p (.tup vs)) (.tup xs) (.ref p) := new_tup S n r
theorem enum_get {xs : List D} {i : Nat} {d : D} (h : (enumD xs)[i]? = some d) : ∃ x, xs[i]? = some x ∧ d = .tup [.int i, x] := by
  unfold enumD at h
  rw [List.getElem?_zipWith] at h
  cases q : xs[i]? with
  | none => rw [q] at h; cases q2 : (List.range xs.length)[i]? <;> rw [q2] at h <;> cases h
  | some x =>
    have hi := (List.getElem?_eq_some_iff.mp q).1
    rw [q, List.getElem?_range hi] at h
    cases h
    exact ⟨x, rfl, rfl⟩
theorem enum_len (xs : List D) : (enumD xs).length = xs.length := by
  unfold enumD
  rw [List.length_zipWith, List.length_range]
  omega
theorem di_enum {fs : Env' → Hh → Rs (List D)} {elts : List Expr} {kk : Nat} {tpos : Pos} (ha : DA g X W [e] fs) (hg : Gl X "enumerate" := by rfl) (hs : starEach [e] X.env = [(false, eval e X.env)] := by rfl) : DI g X W (.Tuple elts kk tpos) (.Call (.Name "enumerate" p) [e] [] pos) (iEnumD fs) := ⟨fun cx => PI.imp (pi_enum hg (cx.bl "enumerate" (by decide +kernel)) (ha.pa cx) hs) fun sg H R ⟨rho, de, h, S, E, A⟩ => by
  refine okL.bd S E A fun rho1 H1 ds vs h1 S1 e1 E1 r1 A1 => ?_
  split at A1
  · rename_i xs
    split at A1
    · rename_i hz
      obtain ⟨v, w, rfl, k1, k2⟩ := r1.inv
      rw [k2.inv0]
      unfold Rp at k1
      obtain ⟨a, ws, rfl, t, l⟩ := k1
      refine ⟨a, ws, rfl, .inl (.inl t.1), A1 rho1 H1 _ S1 (Ext.refl _ _) ⟨by rw [enum_len]; exact lim_le hz, fun rho' h' H' S' e' _ => ?_⟩⟩
      have t' := t.ext e'
      have l' := l.ext e'
      refine ⟨fun i x hx => ?_, ⟨ws, .inl (.inl t'.1), by rw [enum_len, l.length]; exact Nat.le_refl _⟩⟩
      obtain ⟨y, hy, rfl⟩ := enum_get hx
      obtain ⟨v, hv, rv⟩ := l'.get hy
      refine ⟨⟨ws, v, .inl (.inl t'.1), hv⟩, fun u H2 ⟨T, z, eu, hT, e2, hz⟩ => ?_⟩
      subst eu e2
      have hu := hz ws (.inl (.inl t'.1))
      rw [hv] at hu
      cases hu
      exact new_tup S' hT (RpL.cons Rp.int' (RpL.cons rv RpL.nil))
    · exact False.elim A1
  · exact False.elim A1⟩
def zipD (xs ys : List D) : List D := xs.zipWith (fun x y => D.tup [x, y]) ys
def iZipD (fs : Env' → Hh → Rs (List D)) : Env' → Hh → Rs Src := fun de h => (fs de h).bd fun ds h1 => match ds with
  | [.lst xs, .lst ys] => if lim xs.length then .ok ⟨none, zipD xs ys⟩ h1 else .no
  | _ => .no
theorem zip_get {xs ys : List D} {i : Nat} {d : D} (h : (zipD xs ys)[i]? = some d) : ∃ x y, xs[i]? = some x ∧ ys[i]? = some y ∧ d = .tup [x, y] := by
  unfold zipD at h
  rw [List.getElem?_zipWith] at h
  cases q : xs[i]? with
  | none => rw [q] at h; cases h
  | some x =>
    cases q2 : ys[i]? with
    | none => rw [q, q2] at h; cases h
    | some y => rw [q, q2] at h; cases h; exact ⟨x, y, rfl, rfl, rfl⟩
theorem di_zip {fs : Env' → Hh → Rs (List D)} {elts : List Expr} {kk : Nat} {tpos : Pos} (ha : DA g X W [a, b] fs) (hg : Gl X "zip" := by rfl) (hs : starEach [a, b] X.env = (false, eval a X.env) :: starEach [b] X.env := by rfl) (hpl : (backTo pos (starEach [b] X.env)).any (·.1) = false := by rfl) :
    DI g X W (.Tuple elts kk tpos) (.Call (.Name "zip" p) [a, b] [] pos) (iZipD fs) := ⟨fun cx => PI.imp (pi_zip hg (cx.bl "zip" (by decide +kernel)) (ha.pa cx) hs hpl) fun sg H R ⟨rho, de, h, S, E, A⟩ => by
  refine okL.bd S E A fun rho1 H1 ds vs h1 S1 e1 E1 r1 A1 => ?_
  split at A1
  · rename_i xs ys
    split at A1
    · rename_i hz
      obtain ⟨v, w, rfl, k1, k2⟩ := r1.inv
      obtain ⟨v2, w2, rfl, k3, k4⟩ := k2.inv
      rw [k4.inv0]
      unfold Rp at k1 k3
      obtain ⟨p1, ws, rfl, t, l⟩ := k1
      obtain ⟨p2, zs, rfl, t2, l2⟩ := k3
      have hlen : (zipD xs ys).length = min xs.length ys.length := by unfold zipD; rw [List.length_zipWith]
      refine ⟨p1, p2, ws, zs, rfl, .inl (.inl t.1), .inl (.inl t2.1), A1 rho1 H1 _ S1 (Ext.refl _ _) ⟨by rw [hlen]; have := lim_le hz; omega, fun rho' h' H' S' e' _ => ?_⟩⟩
      have t' := t.ext e'
      have l' := l.ext e'
      have t2' := t2.ext e'
      have l2' := l2.ext e'
      have e1 := l.length
      have e2 := l2.length
      refine ⟨fun i x hx => ?_, ⟨ws, zs, .inl (.inl t'.1), .inl (.inl t2'.1), by show ws.length ≤ (zipD xs ys).length ∨ zs.length ≤ (zipD xs ys).length; rw [hlen]; omega⟩⟩
      obtain ⟨x1, y1, hx1, hy1, rfl⟩ := zip_get hx
      obtain ⟨v, hv, rv⟩ := l'.get hx1
      obtain ⟨u, hu, ru⟩ := l2'.get hy1
      refine ⟨⟨ws, zs, v, u, .inl (.inl t'.1), .inl (.inl t2'.1), hv, hu⟩, fun q H2 ⟨T, z1, z2, eu, hT, e2, hz1, hz2⟩ => ?_⟩
      subst eu e2
      have m1 := hz1 ws (.inl (.inl t'.1))
      have m2 := hz2 zs (.inl (.inl t2'.1))
      rw [hv] at m1
      rw [hu] at m2
      cases m1
      cases m2
      exact new_tup S' hT (RpL.cons rv (RpL.cons ru RpL.nil))
    · exact False.elim A1
  · exact False.elim A1⟩
end
end DL

set_option maxHeartbeats 1000000
/-! sorted of lists, tuples, dicts whose items are alike data. -/
namespace DL
open PySem PySem.Spec PyProof.Rows L2
open PySem.W (EachIs AllAlike Sortable alike dataLe dataLt)
/-- what is walked through once -/
def itemsS (h : Hh) (d : D) : Option (List D) := match seqOf h d with
  | some xs => some xs
  | none => (dctOf h d).map fun p => p.2.map (·.1)
def datD (h : Hh) (d : D) : PyData := (dp h 12 d).getD .none
def srtK : PyData → Bool
  | .tuple (_ :: _) => true
  | _ => false
def srtA : PyData → Bool
  | .none => false
  | .tuple _ => false
  | _ => true
def sortOk (h : Hh) (xs : List D) : Bool := lim xs.length && xs.all (fun d => (dp h 12 d).isSome) && xs.all (fun a => xs.all fun b => alike (datD h a) (datD h b)) && (xs.all (fun d => srtK (datD h d)) || xs.all (fun d => srtA (datD h d)))
def sortD (h : Hh) (xs : List D) : List D := xs.mergeSort (dataLe false (datD h))
def bSort : FB := fun ds h => match ds with
  | [d] => (itemsS h d).bind fun xs => if sortOk h xs then some (.lst (sortD h xs), h) else none
  | _ => none
section
variable {g : G} {X : Cx} {W : WX} {rho : Rho} {H : Hp} {h : Hh}
theorem vals_at : ∀ {vs : List V} {us : List Value}, us.length = vs.length → (∀ (j : Nat) (u : Value), us[j]? = some u → ∃ v, vs[j]? = some v ∧ RelV v u) → Vals vs us
  | [], [], _, _ => .nil
  | v :: vs, u :: us, hl, hh => by
    obtain ⟨w, e1, e2⟩ := hh 0 u rfl
    cases e1
    exact .cons e2 (vals_at (by simpa using hl) fun j u e => by
      obtain ⟨w, a, b⟩ := hh (j + 1) u (by simpa using e)
      exact ⟨w, by simpa using a, b⟩)
  | [], _ :: _, hl, _ => by simp at hl
  | _ :: _, [], hl, _ => by simp at hl
theorem paired_at {α β : Type} {F : α → β → Prop} : ∀ {l : List α} {m : List β} {j : Nat} {x : β}, Paired F l m → m[j]? = some x → ∃ y, l[j]? = some y ∧ F y x
  | _, _, j, x, .nil, h => by simp at h
  | _, _, 0, x, .cons a t, h => by
    cases h
    exact ⟨_, rfl, a⟩
  | _, _, j + 1, x, .cons a t, h => by
    obtain ⟨y, z1, z2⟩ := paired_at (j := j) t (by simpa using h)
    exact ⟨y, by simpa using z1, z2⟩
theorem tkeys_rpl (S : Sim g rho h H) : ∀ {ks : List D} {cs : List (List Key)} {bs : List Addr}, tkeysOf ks = some cs → bs.length = cs.length → (∀ (j : Nat) (b : Addr), bs[j]? = some b → ∃ c, cs[j]? = some c ∧ H b = some (.tup (c.map kV))) → RpL g rho H ks (bs.map V.ref)
  | [], cs, bs, e, hl, hb => by
    cases e
    have : bs = [] := List.eq_nil_of_length_eq_zero (by simpa using hl)
    subst this
    exact RpL.nil
  | k :: ks, cs, bs, e, hl, hb => by
    obtain ⟨c, kr, rfl, e1, e2⟩ := allOf_cons e
    cases bs with
    | nil => simp at hl
    | cons b bs =>
      refine RpL.cons ?_ (tkeys_rpl S e2 (by simpa using hl) fun j b' q => ?_)
      · obtain ⟨c', z1, z2⟩ := hb 0 b rfl
        cases z1
        cases k with
        | tup xs =>
          have z3 : keysOf xs = some c := e1
          unfold Rp
          refine ⟨b, c.map kV, rfl, ⟨z2, ?_, ?_⟩, keys_rpl z3⟩
          · intro hm
            obtain ⟨m, hm⟩ := List.getElem?_of_mem hm
            obtain ⟨o2, w1, w2⟩ := S.liv m b hm
            rw [z2] at w1
            cases w1
            exact w2 _ rfl
          · intro hm
            obtain ⟨o2, w1, w2⟩ := S.hoc b hm
            rw [z2] at w1
            cases w1
            exact w2 _ rfl
        | _ => cases e1
      · obtain ⟨c', z1, z2⟩ := hb (j + 1) b' (by simpa using q)
        exact ⟨c', by simpa using z1, z2⟩
theorem items_src (cx : Cok g X W) {pins : List (Addr × Obj)} {s : Shared} {sg : St} (I : Inv X pins sg H s) (S : Sim g rho h H) {d : D} {v : V} {u : Value} {xs : List D} (rd : Rp g rho H d v) (rv : RelV v u) (e : itemsS h d = some xs) {R : List Value → Shared → Prop}
    (hR : ∀ h' tk acc vs, (∀ b o, s.heap.get? b = some o → h'.get? b = some o) → Vals vs acc → RpL g rho H xs vs → R acc { s with heap := h', toks := tk }) : wpAny (model X.prog X.w) X.A.in1 (collect u) R X.xe s := by
  unfold itemsS at e
  cases q : seqOf h d with
  | some ys =>
    rw [q] at e
    cases e
    obtain ⟨a, vs, rfl, t, l⟩ := seq_ok S rd q
    cases rv
    rcases t with t | t
    · obtain ⟨its, r, ⟨o, n, ho, hc, _, hd⟩, hz⟩ := I.list (.inl (.inl t))
      refine PySem.wpAny_collect_seq a (.inl rfl) ho hc hd (fun h' k => ?_) (by rw [List.size_toArray, ← r.length]; exact hz)
      rw [List.toList_toArray]
      exact hR h' s.toks its vs k r l
    · obtain ⟨its, r, ⟨o, ho, hc, n, hd⟩, hz⟩ := I.tuple (.inl (.inl t))
      refine PySem.wpAny_collect_seq a (.inr rfl) ho hc hd (fun h' k => ?_) (by rw [List.size_toArray, ← r.length]; exact hz)
      rw [List.toList_toArray]
      exact hR h' s.toks its vs k r l
  | none =>
    rw [q] at e
    cases q2 : dctOf h d with
    | none => rw [q2] at e; cases e
    | some p =>
      obtain ⟨t, kvs⟩ := p
      rw [q2] at e
      cases e
      obtain ⟨a, vs, o, rfl, hr, ho, hv⟩ := dct_ok S rd q2
      cases rv
      obtain ⟨hl, hk⟩ := ho
      cases t with
      | false =>
        obtain ⟨kk, hk, rfl⟩ := hk
        obtain ⟨z, lo, ws, rel, dd⟩ := dk_rd I.hok hr
        obtain ⟨ep, hat⟩ := dd.dictAt
        have hlk := allOf_len hk
        have hws : ws.length = (kk.zip vs).length := rel.length.symm
        refine PySem.W.kdu_collect (A := X.A.in1) (PySem.W.kdl_dict (knd := mixKind X.prog X.w) (kvs := ws) (ep := ep) lo) (cx.room.hd) hat (by rw [hws]; exact z) fun h' tk acc hkp hacc => ?_
        refine hR h' tk acc.toList (kk.map kV) hkp (vals_at ?_ fun j u hu => ?_) (keys_rpl hk)
        · rw [Array.length_toList, hacc.1, hws, List.length_map, List.length_zip]
          omega
        · obtain ⟨k, x, e1, e2⟩ := hacc.2 j u (by rw [← Array.getElem?_toList]; exact hu)
          have e3 : (ws.map (·.1))[j]? = some k := by rw [List.getElem?_map, e1]; rfl
          rw [← rel.keys, List.getElem?_map] at e3
          cases e4 : (kk.zip vs)[j]? with
          | none => rw [e4] at e3; cases e3
          | some y =>
            rw [e4] at e3
            have e5 : y.1 = k := Option.some.inj e3
            obtain ⟨y1, y2⟩ := zip_at (x := y.1) (y := y.2) (by rw [e4])
            refine ⟨kV k, by rw [List.getElem?_map, y1, e5]; rfl, ?_⟩
            rcases keyIs_shape (show keyIs k u = true from e2) with ⟨i, t, ek, ev⟩ | ⟨z, t, ek, ev⟩
            · subst ek
              exact ⟨t, ev⟩
            · subst ek
              exact ⟨t, ev⟩
      | true =>
        obtain ⟨kk, hk, rfl⟩ := hk
        obtain ⟨z, lo, qs, hp, o, es, ep, ho, hx, hdat, hes, _⟩ := (show ObjOk X.prog X.w H s.heap a (.dT (kk.zip vs)) from rd_of I.hok hr)
        have hlk := allOf_len hk
        have hes2 : es.size = qs.length := by rw [← Array.length_toList, hes, List.length_map]
        have hqs : qs.length = (kk.zip vs).length := hp.length.symm
        refine PySem.W.kdu_collect (A := X.A.in1) (KdlSrc.rawDict (es := es) (ep := ep) lo) (cx.room.hd) ⟨o, ho, hx, hdat⟩ (by rw [hes2, hqs]; exact z) fun h' tk acc hkp hacc => ?_
        refine hR h' tk acc.toList ((qs.map fun q => q.2.1).map V.ref) hkp (vals_at ?_ fun j u hu => ?_) (tkeys_rpl S hk ?_ fun j b hb => ?_)
        · rw [Array.length_toList, hacc.1, hes2, List.length_map, List.length_map]
        · obtain ⟨hi, ev⟩ := hacc.2 j u (by rw [← Array.getElem?_toList]; exact hu)
          have hj : es.toList[j]? = some es[j] := by rw [Array.getElem?_toList, Array.getElem?_eq_getElem hi]
          rw [hes, List.getElem?_map] at hj
          cases e4 : qs[j]? with
          | none => rw [e4] at hj; cases hj
          | some y =>
            rw [e4] at hj
            have e5 := Option.some.inj hj
            refine ⟨.ref y.2.1, by rw [List.getElem?_map, List.getElem?_map, e4]; rfl, ?_⟩
            rw [ev, ← e5]
            rfl
        · rw [List.length_map, hqs, List.length_zip]
          omega
        · rw [List.getElem?_map] at hb
          cases e4 : qs[j]? with
          | none => rw [e4] at hb; cases hb
          | some y =>
            rw [e4] at hb
            cases hb
            obtain ⟨w, hw, hw2, hw3, _⟩ := paired_at hp e4
            obtain ⟨y1, y2⟩ := zip_at (x := w.1) (y := w.2) (by rw [hw])
            exact ⟨w.1, y1, hw3⟩
theorem each_of {g : G} {rho : Rho} {H : Hp} : ∀ {xs : List D} {vs : List V} {us : List Value}, RpL g rho H xs vs → Vals vs us → EachIs (fun u d => ∃ v, RelV v u ∧ Rp g rho H d v) us xs
  | [], vs, us, r, t => by
    rw [r.inv0] at t
    cases t
    exact .nil
  | d :: xs, vs, us, r, t => by
    obtain ⟨v, w, rfl, r1, r2⟩ := r.inv
    cases t with
    | cons a b => exact .cons ⟨v, a, r1⟩ (each_of r2 b)
theorem of_each {g : G} {rho : Rho} {H : Hp} : ∀ {xs : List D} {us : List Value}, EachIs (fun u d => ∃ v, RelV v u ∧ Rp g rho H d v) us xs → ∃ vs, Vals vs us ∧ RpL g rho H xs vs
  | [], us, t => by cases t; exact ⟨[], .nil, RpL.nil⟩
  | d :: xs, us, t => by
    cases t with
    | cons a b =>
      obtain ⟨v, h1, h2⟩ := a
      obtain ⟨vs, k1, k2⟩ := of_each b
      exact ⟨v :: vs, .cons h1 k1, RpL.cons h2 k2⟩
theorem each_with {α β : Type} {R R' : α → β → Prop} : ∀ {as : List α} {bs : List β}, EachIs R as bs → (∀ a b, R a b → b ∈ bs → R' a b) → EachIs R' as bs
  | _, _, .nil, _ => .nil
  | _, _, .cons a t, h => .cons (h _ _ a (List.mem_cons_self ..)) (each_with t fun a b r m => h a b r (List.mem_cons_of_mem _ m))
theorem sortOk_inv {xs : List D} (e : sortOk h xs = true) : xs.length ≤ sizeLine ∧ (∀ d ∈ xs, ∃ p, dp h 12 d = some p ∧ datD h d = p) ∧ AllAlike (xs.map (datD h)) ∧ Sortable (xs.map (datD h)) := by
  unfold sortOk at e
  simp only [Bool.and_eq_true, List.all_eq_true, Bool.or_eq_true] at e
  obtain ⟨⟨⟨e1, e2⟩, e3⟩, e4⟩ := e
  refine ⟨lim_le e1, fun d hd => ?_, ?_, ?_⟩
  · cases q : dp h 12 d with
    | none => have := e2 d hd; rw [q] at this; cases this
    | some p => exact ⟨p, rfl, by unfold datD; rw [q]; rfl⟩
  · intro a ha b hb
    obtain ⟨x, hx, rfl⟩ := List.mem_map.mp ha
    obtain ⟨y, hy, rfl⟩ := List.mem_map.mp hb
    exact e3 x hx y hy
  · rcases e4 with e4 | e4
    · refine .inl fun d hd => ?_
      obtain ⟨x, hx, rfl⟩ := List.mem_map.mp hd
      have := e4 x hx
      unfold srtK at this
      split at this
      · rename_i y r q
        exact ⟨y, r, q⟩
      · cases this
    · refine .inr fun d hd => ?_
      obtain ⟨x, hx, rfl⟩ := List.mem_map.mp hd
      have := e4 x hx
      unfold srtA at this
      split at this
      · cases this
      · cases this
      · rename_i n1 n2
        exact ⟨n1, n2⟩
theorem sortD_len {xs : List D} : (sortD h xs).length = xs.length := by
  unfold sortD
  rw [List.length_mergeSort]
theorem bSort_ok (cx : Cok g X W) : CalD g X (.builtin "sorted") bSort := by
  intro pins s sg H vs us Q I rv hh
  obtain ⟨rho, h, ds, d, h', S, r, eq, A⟩ := hh
  unfold bSort at eq
  split at eq
  · rename_i x
    cases q : itemsS h x with
    | none => rw [q] at eq; cases eq
    | some xs =>
      rw [q] at eq
      simp only [Option.bind_some] at eq
      split at eq
      · rename_i hz
        cases eq
        obtain ⟨z1, z2, z3, z4⟩ := sortOk_inv hz
        obtain ⟨v, w, rfl, r1, r2⟩ := r.inv
        rw [r2.inv0] at rv
        obtain ⟨u, rfl, ru⟩ := vals1 rv
        refine Calls.call_function_entry PyProof.Rows.kind_sorted PyProof.Rows.plain_sorted PyProof.Rows.entry_sorted (PyProof.Rows.args_sorted1 _) ?_
        unfold Builtin.«sorted»
        refine wpAny_bind (m := checkCount "sorted" 1 1 _) (wpAny_pure ?_)
        refine wpAny_bind (items_src cx I S r1 ru q fun h' tk acc ws kp rw' rl => ?_)
        have I1 : Inv X pins sg H { s with heap := h', toks := tk } := I.kept kp
        have ea := each_of rl rw'
        have hal : acc.length = xs.length := ea.length
        refine wpAny_bind (wpAny_newList ?_ (by rw [hal]; exact z1))
        have hoL : (h'.push (seqObj "list" acc.toArray 0)).get? h'.objs.size = some (seqObj "list" acc.toArray 0) := Heap.get?_push_size _ rfl
        show wpAny _ _ _ _ _ { s with heap := h'.push (seqObj "list" acc.toArray 0), toks := tk }
        have er : EachIs (fun u d => ∃ as, Reads (h'.push (seqObj "list" acc.toArray 0)) u (datD h d) as ∧ h'.objs.size ∉ as) acc xs := each_with ea fun u d ⟨v, h1, h2⟩ hm => by
          obtain ⟨p, e1, e2⟩ := z2 d hm
          rw [e2]
          have dpv := dp_ok (K := X.K) S 12 d v p h2 e1
          obtain ⟨as, rr⟩ := Dp.reads I1 p v u dpv h1
          refine ⟨as, PyProof.Rows.Reads.keeps (fun b o e => Heap.get?_push_of_some _ e) rr, fun hin => ?_⟩
          obtain ⟨o, ho⟩ := PyProof.On.reads_mem_get rr _ hin
          exact absurd (Heap.lt_size ho) (Nat.lt_irrefl _)
        refine wpAny_bind (wpAny_holding (PySem.W.list_sort_data (s := { s with heap := h'.push (seqObj "list" acc.toArray 0), toks := tk }) hoL ea er z3 z4 z1 (fun d hd => ?_) fun out hlen eo => ?_))
        · obtain ⟨p, e1, e2⟩ := z2 d hd
          rw [e2]
          have := dp_depth 12 d p e1
          have := cx.room.un
          show X.A.units + 1 + 1 + p.depth < cLine
          omega
        · obtain ⟨ys, k1, k2⟩ := of_each eo
          obtain ⟨e', he'⟩ := PyProof.Rows.sortedHeap_at (vs := acc) (out := out.toArray) hoL
          have hys : ys.length ≤ sizeLine := by rw [← k2.length, List.length_mergeSort]; exact z1
          have hn : H h'.objs.size = none := I1.hok.fresh (Nat.le_refl _)
          obtain ⟨s1, s2, s3⟩ := new_lst S hn k2
          refine wpAny_pure ⟨_, rfl, .ref h'.objs.size, upd H h'.objs.size (.lst ys), I1.laid (t' := tk) (fun b u e => ?_) (Nat.le_refl _)
            (show ObjOk X.prog X.w _ _ _ (.lst ys) from ⟨hys, out, e', k1, he'⟩), rfl, A rho _ _ s1 s2 s3⟩
          have hb : b < h'.objs.size := Heap.lt_size e
          rw [PyProof.Rows.sortedHeap_old (Nat.ne_of_lt hb) (by rw [size_push']; exact Nat.lt_succ_of_lt hb)]
          exact Heap.get?_push_of_some _ e
      · cases eq
  · cases eq
end
end DL

set_option maxHeartbeats 1000000
/-! isinstance, repr of flat things. -/
namespace DL
open PySem PySem.Spec PyProof.Rows L2
/-- the name of a value's built-in type; an instance has none -/
def tyN (h : Hh) : D → Option String
  | .non => some "NoneType"
  | .bl _ => some "bool"
  | .int _ => some "int"
  | .str _ => some "str"
  | .tup _ => some "tuple"
  | .lst _ => some "list"
  | .dct _ _ _ => some "dict"
  | .ref i => match h[i]? with
    | some (.lst _) => some "list"
    | some (.dct _ _) => some "dict"
    | _ => none
  | _ => none
/-- what is known of the classes: sub c c' says that c is c' or below it; n classes -/
structure IsF (g : G) (n : Nat) (sub : Nat → Nat → Bool) : Prop where
  bc : ∀ T ∈ tyNames, ∀ c, c < n → PySem.W.kitOne g.K (.type T) (.ref (g.ca c)) = some false
  cc : ∀ c c', c < n → c' < n → PySem.W.kitOne g.K (.ref (g.ca c)) (.ref (g.ca c')) = some (sub c c')
  cb : ∀ c, c < n → ∀ T ∈ tyNames, PySem.W.kitOne g.K (.ref (g.ca c)) (.type T) = some false
  ha : ∀ c, c < n → PySem.W.findIn g.K (.ref (g.ca c)) "__class__" = some (some (.builtin "object.__class__"))
  hn : PySem.W.specialIn g.K (.builtin "object.__class__") "__get__" = some (some (.builtin "getset_descriptor.__get__"))
  htk : PySem.W.takesIn g.K (.builtin "object.__class__") = some true
  hm : ∀ c, c < n → PySem.W.mroIn g.K (g.ca c) (.type "object") = some true
def isTy (T : String) (U : String) : Bool := T == U || (T == "bool" && U == "int")
/-- isinstance(d, c) of one class -/
def isi1 (n : Nat) (sub : Nat → Nat → Bool) (h : Hh) (d c : D) : Option Bool := match c with
  | .ty U => if tyNames.contains U then (match tyN h d with
    | some T => some (isTy T U)
    | none => (match insOf h d with
      | some (_, c', _) => if c' < n then some false else none
      | none => none)) else none
  | .cls k => if k < n then (match tyN h d with
    | some _ => some false
    | none => (match insOf h d with
      | some (_, c', _) => if c' < n then some (sub c' k) else none
      | none => none)) else none
  | _ => none
def isiA (n : Nat) (sub : Nat → Nat → Bool) (h : Hh) (d : D) : List D → Option Bool
  | [] => some false
  | c :: cs => match isi1 n sub h d c with
    | some true => some true
    | some false => isiA n sub h d cs
    | none => none
def allCls : List D → Bool
  | [] => true
  | .ty _ :: cs => allCls cs
  | .cls _ :: cs => allCls cs
  | _ => false
def bIsi (n : Nat) (sub : Nat → Nat → Bool) : FB := fun ds h => match ds with
  | [d, .tup cs] => if allCls cs && !cs.isEmpty then (isiA n sub h d cs).map fun b => (.bl b, h) else none
  | [d, c] => (isi1 n sub h d c).map fun b => (.bl b, h)
  | _ => none
theorem kit_bb (K : PySem.W.Frag) (T U : String) (hT : T ∈ tyNames) (hU : U ∈ tyNames) : PySem.W.kitOne K (.type T) (.type U) = some (isTy T U) := by
  have hT' := List.mem_cons.mp hT
  simp only [tyNames, List.mem_cons, List.not_mem_nil, or_false] at hT hU
  rcases hT with rfl | rfl | rfl | rfl | rfl | rfl | rfl <;> rcases hU with rfl | rfl | rfl | rfl | rfl | rfl | rfl <;> rfl
section
variable {g : G} {X : Cx} {W : WX} {rho : Rho} {H : Hp} {h : Hh}
def clsVal (g : G) : D → Value
  | .ty U => .type U
  | .cls k => .ref (g.ca k)
  | _ => .none
theorem ty_ok (S : Sim g rho h H) {d : D} {v : V} (r : Rp g rho H d v) {T : String} (e : tyN h d = some T) : TyX g.K H v (.type T) ∧ T ∈ tyNames := by
  cases d with
  | non => cases e; rw [r.non_]; exact ⟨.base .non, by decide⟩
  | bl b => cases e; rw [r.bl_]; exact ⟨.base (.bl b), by decide⟩
  | int b => cases e; rw [r.int_]; exact ⟨.base (.int b), by decide⟩
  | str b => cases e; rw [r.str_]; exact ⟨.base (.str b), by decide⟩
  | tup xs =>
    cases e
    obtain ⟨a, vs, rfl, t, l⟩ := r.tup_
    exact ⟨.base (.tup t.1), by decide⟩
  | lst xs =>
    cases e
    unfold Rp at r
    obtain ⟨a, vs, rfl, t, l⟩ := r
    exact ⟨.base (.lst t.1), by decide⟩
  | dct t ks xs =>
    cases e
    unfold Rp at r
    obtain ⟨a, vs, rfl, ⟨o, t1, t2, t3, t4⟩, l⟩ := r
    refine ⟨?_, by decide⟩
    cases t with
    | false => obtain ⟨kk, _, rfl⟩ := t4; exact .base (.dK t1)
    | true => obtain ⟨kk, _, rfl⟩ := t4; exact .base (.dT t1)
  | ref i =>
    unfold tyN at e
    cases q : h[i]? with
    | none => simp only [q] at e; cases e
    | some o =>
      unfold Rp at r
      cases o with
      | lst xs =>
        simp only [q] at e
        cases e
        obtain ⟨a, vs, k1, k2, k3⟩ := S.obj i _ q
        have ev := r.2 a k1
        subst ev
        exact ⟨.base (.lst k2), by decide⟩
      | dct t kvs =>
        simp only [q] at e
        cases e
        obtain ⟨a, vs, o, k1, k2, ⟨k3, k5⟩, k4⟩ := S.obj i _ q
        have ev := r.2 a k1
        subst ev
        refine ⟨?_, by decide⟩
        cases t with
        | false => obtain ⟨kk, _, rfl⟩ := k5; exact .base (.dK k2)
        | true => obtain ⟨kk, _, rfl⟩ := k5; exact .base (.dT k2)
      | _ => simp only [q] at e; cases e
  | _ => cases e
/-- the type of a value, the answers for every class -/
theorem isi_ok {n : Nat} {sub : Nat → Nat → Bool} (F : IsF g n sub) (S : Sim g rho h H) {d : D} {v : V} (r : Rp g rho H d v) {c : D} {b : Bool} (e : isi1 n sub h d c = some b) :
    ∃ t, TyX g.K H v t ∧ ∀ c b, isi1 n sub h d c = some b → PySem.W.kitOne g.K t (clsVal g c) = some b := by
  cases q : tyN h d with
  | some T =>
    obtain ⟨h1, h2⟩ := ty_ok S r q
    refine ⟨.type T, h1, fun c b e => ?_⟩
    cases c with
    | ty U =>
      unfold isi1 at e
      rw [q] at e
      dsimp only at e
      split at e
      · rename_i hU
        cases e
        exact kit_bb g.K T U h2 (by simpa using hU)
      · cases e
    | cls k =>
      unfold isi1 at e
      rw [q] at e
      dsimp only at e
      split at e
      · rename_i hk
        cases e
        exact F.bc T h2 k hk
      · cases e
    | _ => cases e
  | none =>
    cases q2 : insOf h d with
    | none =>
      exfalso
      cases c with
      | ty U =>
        unfold isi1 at e
        rw [q, q2] at e
        dsimp only at e
        split at e <;> cases e
      | cls k =>
        unfold isi1 at e
        rw [q, q2] at e
        dsimp only at e
        split at e <;> cases e
      | _ => cases e
    | some p =>
      obtain ⟨i, c', fs⟩ := p
      obtain ⟨rfl, q3⟩ := insOf_inv q2
      have hc : c' < n := by
        cases c with
        | ty U =>
          unfold isi1 at e
          rw [q, q2] at e
          dsimp only at e
          split at e
          · split at e
            · assumption
            · cases e
          · cases e
        | cls k =>
          unfold isi1 at e
          rw [q, q2] at e
          dsimp only at e
          split at e
          · split at e
            · assumption
            · cases e
          · cases e
        | _ => cases e
      obtain ⟨a, dx, ws, ev, h3, h4, h5, h6⟩ := ref_ins S r q3
      subst ev
      refine ⟨.ref (g.ca c'), .base (.ins h4 h5.cls (F.ha c' hc) F.hn F.htk (F.hm c' hc)), fun c b e => ?_⟩
      cases c with
      | ty U =>
        unfold isi1 at e
        rw [q, q2] at e
        dsimp only at e
        rw [if_pos hc] at e
        split at e
        · rename_i hU
          cases e
          exact F.cb c' hc U (by simpa using hU)
        · cases e
      | cls k =>
        unfold isi1 at e
        rw [q, q2] at e
        dsimp only at e
        rw [if_pos hc] at e
        split at e
        · rename_i hk
          cases e
          exact F.cc c' k hc hk
        · cases e
      | _ => cases e
theorem isi_cls {d c : D} {n : Nat} {sub : Nat → Nat → Bool} {b : Bool} (e : isi1 n sub h d c = some b) : (∃ U, c = .ty U) ∨ ∃ k, c = .cls k := by
  cases c with
  | ty U => exact .inl ⟨U, rfl⟩
  | cls k => exact .inr ⟨k, rfl⟩
  | _ => cases e
theorem cls_v {c : D} {v : V} (r : Rp g rho H c v) (e : (∃ U, c = .ty U) ∨ ∃ k, c = .cls k) : ClsV v (clsVal g c) := by
  rcases e with ⟨U, rfl⟩ | ⟨k, rfl⟩
  · rw [r.ty_]; exact .ty U
  · rw [r.cls_]; exact .own _
theorem cls_all : ∀ {cs : List D} {vs : List V}, RpL g rho H cs vs → allCls cs = true → Paired ClsV vs (cs.map (clsVal g))
  | [], vs, r, e => by rw [r.inv0]; exact .nil
  | c :: cs, vs, r, e => by
    obtain ⟨v, w, rfl, r1, r2⟩ := r.inv
    cases c with
    | ty U => exact .cons (cls_v r1 (.inl ⟨U, rfl⟩)) (cls_all r2 e)
    | cls k => exact .cons (cls_v r1 (.inr ⟨k, rfl⟩)) (cls_all r2 e)
    | _ => cases e
theorem isiA_kit {n : Nat} {sub : Nat → Nat → Bool} {d : D} {t : Value} (ht : ∀ c b, isi1 n sub h d c = some b → PySem.W.kitOne g.K t (clsVal g c) = some b) : ∀ {cs : List D} {b : Bool}, isiA n sub h d cs = some b → PySem.W.kitAny g.K t (cs.map (clsVal g)) = some b
  | [], b, e => by cases e; rfl
  | c :: cs, b, e => by
    unfold isiA at e
    rw [List.map_cons]
    unfold PySem.W.kitAny
    cases q : isi1 n sub h d c with
    | none => rw [q] at e; cases e
    | some b' =>
      rw [q] at e
      rw [ht c b' q]
      cases b' with
      | true => cases e; rfl
      | false => exact isiA_kit ht e
theorem bIsi_ok {n : Nat} {sub : Nat → Nat → Bool} (F : IsF g n sub) (cx : Cok g X W) : CalD g X (.builtin "isinstance") (bIsi n sub) := by
  intro pins s sg H vs us Q I rv hh
  obtain ⟨rho, h, ds, d, h', S, r, eq, A⟩ := hh
  unfold bIsi at eq
  split at eq
  · rename_i x cs
    split at eq
    · rename_i hc
      cases q : isiA n sub h x cs with
      | none => rw [q] at eq; cases eq
      | some b =>
        rw [q] at eq
        cases eq
        obtain ⟨v, w, rfl, r1, r2⟩ := r.inv
        obtain ⟨v2, w2, rfl, r3, r4⟩ := r2.inv
        rw [r4.inv0] at rv
        obtain ⟨a, ws, rfl, t, l⟩ := r3.tup_
        obtain ⟨hc1, hc2⟩ := Bool.and_eq_true_iff.mp hc
        cases cs with
        | nil => cases hc2
        | cons c cs =>
          have q' := q
          unfold isiA at q'
          cases q1 : isi1 n sub h x c with
          | none => rw [q1] at q'; cases q'
          | some b1 =>
            obtain ⟨t0, k1, k2⟩ := isi_ok F S r1 q1
            exact call_isiT pins s sg H _ us Q I rv ⟨v, a, ws, t0, _, b, rfl, t.1, cls_all l hc1, by rw [← cx.K]; exact k1, by rw [← cx.K]; exact isiA_kit k2 q, A rho H _ S (Ext.refl _ _) Rp.bl'⟩
    · cases eq
  · rename_i x c _
    cases q : isi1 n sub h x c with
    | none => rw [q] at eq; cases eq
    | some b =>
      rw [q] at eq
      cases eq
      obtain ⟨v, w, rfl, r1, r2⟩ := r.inv
      obtain ⟨v2, w2, rfl, r3, r4⟩ := r2.inv
      rw [r4.inv0] at rv
      obtain ⟨t0, k1, k2⟩ := isi_ok F S r1 q
      exact call_isi pins s sg H _ us Q I rv ⟨v, v2, t0, _, b, rfl, cls_v r3 (isi_cls q), by rw [← cx.K]; exact k1, by rw [← cx.K]; exact k2 _ _ q, A rho H _ S (Ext.refl _ _) Rp.bl'⟩
  · cases eq
/-- repr of a flat thing -/
def bRepr : FB := fun ds h => match ds with
  | [.non] => some (.str "None", h)
  | [.bl b] => some (.str (if b then "True" else "False"), h)
  | [.int i] => if Nat.blt i.natAbs.log2 1920 then some (.str (Str.ofString (toString i)), h) else none
  | _ => none
theorem bRepr_ok : CalD g X (.builtin "repr") bRepr := by
  intro pins s sg H vs us Q I rv hh
  obtain ⟨rho, h, ds, d, h', S, r, eq, A⟩ := hh
  unfold bRepr at eq
  split at eq
  · cases eq
    obtain ⟨v, w, rfl, r1, r2⟩ := r.inv
    rw [r2.inv0, r1.non_] at rv
    obtain ⟨u, rfl, ru⟩ := vals1 rv
    cases ru
    exact PySem.P.repr_of_none ⟨.str _, H, I.tok _, ⟨_, rfl⟩, A rho H _ S (Ext.refl _ _) Rp.str'⟩
  · rename_i b
    cases eq
    obtain ⟨v, w, rfl, r1, r2⟩ := r.inv
    rw [r2.inv0, r1.bl_] at rv
    obtain ⟨u, rfl, ru⟩ := vals1 rv
    cases ru
    exact PySem.P.repr_of_bool ⟨.str _, H, I.tok _, ⟨_, rfl⟩, A rho H _ S (Ext.refl _ _) Rp.str'⟩
  · rename_i i
    split at eq
    · rename_i hz
      cases eq
      obtain ⟨v, w, rfl, r1, r2⟩ := r.inv
      rw [r2.inv0, r1.int_] at rv
      exact SkE.call_repr_int pins s sg H _ us Q I rv ⟨i, rfl, Nat.le_of_ble_eq_true hz, A rho H _ S (Ext.refl _ _) Rp.str'⟩
    · cases eq
  · cases eq
end
end DL

set_option maxHeartbeats 1000000
/-! Small pieces that the printed derivations use. -/
namespace DL
open PySem PySem.Spec PyProof.Rows L2 ClX
section
variable {g : G} {X : Cx} {W : WX} {k : Nat} {x name : Str} {p p2 pos cpos apos : Pos} {e a o i value : Expr} {es : List Expr} {fs : Env' → Hh → Rs (List D)} {fo fi f fa fb : Env' → Hh → Rs D} {F : FM} {id T : String} {isT : Hh → D → Bool}
theorem de_cvalE {c : Nat} {y : Str} {j : Int} (hv : ∃ mc u, CRead g.K (g.ca c) mc ∧ CVal g.K (g.ca c) mc y (.int j) u) (ho : DE g X W o fo) (hb : attributeBase o y X.env (eval o X.env) = eval o X.env := by rfl) : DE g X W (.Attribute o y pos) (dCon (.int j) fo c) := by
  obtain ⟨mc, u, r, kv⟩ := hv
  exact de_cval ho r kv hb
theorem de_bmC (pa : PlainAttrs T) (slot : Slot T name id) (hty : typeOf (.builtin id) = pure (.type "method_descriptor")) (ty : TyOk g T isT) (hm : Cok g X W → MtD g X id F) (ho : DE g X W o fo) (ha : DA g X W (e :: es) fs)
    (hbase : attributeBase o name X.env (eval o X.env) = eval o X.env := by rfl)
    (hfew : ((backTo cpos (starEach (e :: es) X.env)).all (fun x => !x.1) && (backToKw cpos (keywordEach [] X.env)).all (fun x => x.1.isSome)
      && decide ((e :: es).length + ([] : List Keyword).length + (if ([] : List Keyword).isEmpty then 0 else 1) < 30)) = true := by rfl)
    (hline : (apos.endLine == cpos.line) = true := by rfl) (hs : starEach (e :: es) X.env = (false, eval e X.env) :: starEach es X.env := by rfl) (hplain : (backTo cpos (starEach es X.env)).any (·.1) = false := by rfl) :
    DE g X W (.Call (.Attribute o name apos) (e :: es) [] cpos) (dBm isT F fo fs) :=
  ⟨fun cx => (de_bm pa slot hty ty (hm cx) ho ha hbase hfew hline hs hplain).pe cx⟩
def dNeg (fa : Env' → Hh → Rs D) : Env' → Hh → Rs D := fun de h => (fa de h).bd fun d h1 => ofO (match d with
  | .int i => some (D.int (-i))
  | _ => none) h1
theorem de_neg' (ha : DE g X W a fa) : DE g X W (.UnaryOp .USub a pos) (dNeg fa) := de_neg ha
/-- a + b of lists, an object of the abstract heap -/
def dCatA (fa fb : Env' → Hh → Rs D) : Env' → Hh → Rs D := fun de h => (fa de h).bd fun x h1 => (fb de h1).bd fun y h2 => match lstOf h2 x, lstOf h2 y with
  | some xs, some ys => if lim (xs.length + ys.length) then .ok (.ref h2.length) (h2 ++ [.lst (xs ++ ys)]) else .no
  | _, _ => .no
theorem de_catA {b : Expr} (ha : DE g X W a fa) (hb : DE g X W b fb) : DE g X W (.BinOp a .Add b pos) (dCatA fa fb) := ⟨fun cx => by
  refine PE.imp (pe_op op_catL (ha.pe cx) (hb.pe cx)) fun sg H Q ⟨rho, de, h, S, E, A⟩ => ?_
  refine okE.bd S E A fun rho1 H1 x v1 h1 S1 e1 E1 r1 A1 => ?_
  refine okE.bd S1 E1 A1 fun rho2 H2 y v2 h2 S2 e2 E2 r2 A2 => ?_
  split at A2
  · rename_i xs ys q1 q2
    split at A2
    · rename_i hz
      obtain ⟨p, vs, rfl, t1, l1⟩ := lst_ok S2 (Rp.ext e2 _ _ r1) q1
      obtain ⟨q, ws, rfl, t2, l2⟩ := lst_ok S2 r2 q2
      refine ⟨p, q, vs, ws, rfl, rfl, .inl t1, .inl t2, by rw [← l1.length, ← l2.length]; exact lim_le hz, fun m hm => ?_⟩
      obtain ⟨s1, s2, s3⟩ := new_ref S2 hm (l1.app l2)
      exact A2 _ _ _ s1 s2 s3
    · exact False.elim A2
  · exact False.elim A2⟩
/-- d.clear() of a dict -/
def mClearM : FM := fun d ds h => match d, ds with
  | .ref i, [] => (match h[i]? with
    | some (.dct false _) => some (.non, h.set i (.dct false []))
    | _ => none)
  | _, _ => none
theorem mClearM_ok : MtD g X "dict.clear" mClearM := by
  intro pins s sg H x vs v us Q I rx rvs hh
  obtain ⟨rho, h, d, ds, d2, h2, S, r1, r2, eq, A⟩ := hh
  unfold mClearM at eq
  split at eq
  · rename_i i
    cases q : h[i]? with
    | none => simp only [q] at eq; cases eq
    | some o =>
      cases o with
      | dct t kv =>
        cases t with
        | true => simp only [q] at eq; cases eq
        | false =>
          simp only [q] at eq
          cases eq
          obtain ⟨a, vs, o, k1, k2, ⟨k3, kk, k4, rfl⟩, k5⟩ := S.obj i _ q
          unfold Rp at r1
          have ev := r1.2 a k1
          subst ev
          have e0 := r2.inv0
          subst e0
          have ex : Ext rho H rho (upd H a (.dK [])) := Ext.write k1 (fun ob u z => by rw [k2] at z; cases z)
          exact mtd_clear pins s sg H _ _ v us Q I rx rvs ⟨a, kk.zip vs, rfl, rfl, k2, A rho _ _ (S.write k1 ⟨a, [], _, k1, upd_same, ⟨rfl, [], rfl, rfl⟩, RpL.nil⟩ (fun _ z => nomatch z)) ex Rp.non'⟩
      | _ => simp only [q] at eq; cases eq
  · cases eq
/-- x is True, x is not True: of bools -/
def oIsB (x y : D) (_ : Hh) : Option D := match x, y with
  | .bl a, .bl b => some (.bl (decide (a = b)))
  | _, _ => none
def oNotB (x y : D) (_ : Hh) : Option D := match x, y with
  | .bl a, .bl b => some (.bl (!decide (a = b)))
  | _, _ => none
theorem oIsB_ok : OpD g X (compareOp .Is) oIsB := by
  intro pins s sg H x y v u Q I rx ry hh
  obtain ⟨rho, h, d1, d2, d, S, r1, r2, eq, A⟩ := hh
  unfold oIsB at eq
  split at eq
  · rename_i a b
    cases eq
    exact op_isBl pins s sg H x y v u Q I rx ry ⟨a, b, r1.bl_, r2.bl_, A rho H _ S (Ext.refl _ _) Rp.bl'⟩
  · cases eq
theorem oNotB_ok : OpD g X (compareOp .IsNot) oNotB := by
  intro pins s sg H x y v u Q I rx ry hh
  obtain ⟨rho, h, d1, d2, d, S, r1, r2, eq, A⟩ := hh
  unfold oNotB at eq
  split at eq
  · rename_i a b
    cases eq
    exact op_notBl pins s sg H x y v u Q I rx ry ⟨a, b, r1.bl_, r2.bl_, A rho H _ S (Ext.refl _ _) Rp.bl'⟩
  · cases eq
theorem okT_okE {f : Env' → Hh → Rs D} {sg : St} {H : Hp} {Q : Bool → Hp → Prop} (h : okT g W (dBl f) sg H Q) : okE g W f sg H fun x H' => ∃ k, x = .bl k ∧ Q k H' := by
  obtain ⟨rho, de, h, S, E, A⟩ := h
  refine okE.bd S E A fun rho1 H1 x v1 h1 S1 e1 E1 r1 A1 => ?_
  obtain ⟨b, q2, k⟩ := Aft.ofT A1
  exact ⟨b, blOf_ok q2 r1, k rho1 H1 S1 (Ext.refl _ _)⟩
theorem dt_chain {b c : Expr} {fc : Env' → Hh → Rs D} {op op' : CmpOp} {F F' : D → D → Hh → Option D} (o : Cok g X W → OpD g X (compareOp op) F) (o' : Cok g X W → OpD g X (compareOp op') F') (ha : DE g X W a fa) (hb : DE g X W b fb) (hc : DE g X W c fc)
    (hm : lastMarks [op, op'] [b, c] = false := by with_unfolding_all rfl) : DT g X W (.Compare a [op, op'] [b, c] pos) (dBl (dChain F F' fa fb fc)) := ⟨fun cx => by
  refine PT.imp (pt_chain (o cx) (o' cx) (ha.pe cx) (hb.pe cx) (hc.pe cx) hm) fun sg H Q hh => ?_
  obtain ⟨rho, de, h, S, E, A⟩ := okT_okE hh
  refine okE.bd S E A fun rho1 H1 x v1 h1 S1 e1 E1 r1 A1 => ?_
  refine okE.bd S1 E1 A1 fun rho2 H2 y v2 h2 S2 e2 E2 r2 A2 => ?_
  cases q : F x y h2 with
  | none => simp only [q] at A2; exact False.elim A2
  | some d =>
    simp only [q, Option.bind_some] at A2
    refine ⟨rho2, h2, x, y, d, S2, Rp.ext e2 _ _ r1, r2, q, fun rho3 H3 v3 S3 e3 r3 => ?_⟩
    cases q2 : blOf d with
    | none => simp only [q2] at A2; exact False.elim A2
    | some p =>
      simp only [q2] at A2
      refine ⟨p, blOf_ok q2 r3, ?_⟩
      cases p with
      | false => exact iteF (A2 rho3 H3 _ S3 e3 Rp.bl')
      | true =>
        refine iteT ?_
        refine okE.bd S3 (E2.ext e3) (A2.later e3) fun rho4 H4 z v4 h4 S4 e4 E4 r4 A4 => ?_
        obtain ⟨w, q4, k⟩ := A4.ofO
        exact ⟨rho4, h4, y, z, w, S4, Rp.ext e4 _ _ (Rp.ext e3 _ _ r2), r4, q4, k⟩⟩
end
end DL

set_option maxHeartbeats 1000000
/-! From derivations to promises; the head's facts. -/
namespace DL
open PySem PySem.Spec PyProof.Rows L2
open He
section
variable {g : G} {P : Program} {w : World} {mg : Str → Option Value} {base : Heap} {CX : CXT} {k m : Nat} {f : Addr} {fd : FuncData} {ps : List Str} {F F2 : Fn}
/-- a promise in other words -/
theorem FnOkG.eqv (ok : FnOkG P w g.K mg base CX k f fd ps (spD g m F)) (q : ∀ ds h, ds.length = m → F2 ds h ≠ .no → F ds h = F2 ds h) : FnOkG P w g.K mg base CX k f fd ps (spD g m F2) := FnOkG.imp ok fun vs H Q E ⟨hl, rho, ds, h, S, r, A⟩ => ⟨hl, rho, ds, h, S, r, by
  cases e : F2 ds h with
  | no => rw [e] at A; exact False.elim A
  | ok d h' => rw [q ds h (by rw [r.length, hl]) (by rw [e]; simp)]; exact A
  | ex x h' => rw [q ds h (by rw [r.length, hl]) (by rw [e]; simp)]; exact A⟩
/-- .. or cut: the arguments name standing objects -/
theorem FnOkG.gcL (ok : FnOkG P w g.K mg base CX k f fd ps (spD g m F)) (q : ∀ ds h, ds.length = m → D.nrL h.length ds → F2 ds h ≠ .no → GcTo h (F ds h) (F2 ds h)) : FnOkG P w g.K mg base CX k f fd ps (spD g m F2) := FnOkG.imp ok fun vs H Q E ⟨hl, rho, ds, h, S, r, A⟩ => ⟨hl, rho, ds, h, S, r, A.gc S (q ds h (by rw [r.length, hl]) (by have := nrL_of ds vs r; rw [S.len] at this; exact this))⟩
def lenI (n : Nat) (F : Fn) : Fn := fun es h => if es.length = n then F es h else .no
theorem FnA.of {x : Str} (ok : FnOkG P w g.K mg base (L2.CX P w) k f fd ps (spD g ps.length F)) (hm : mg x = some (.ref f)) (kp : PySem.W.keepIn g.K (.ref f) = true) (b : Binds g.K fd ps []) : FnA g P w mg base k x (lenI ps.length F) :=
  ⟨f, fd, ps, [], [], [], F, ok, hm, kp, b, .nil, fun _ _ => RpL.nil, fun es h => by simp [lenI]⟩
theorem FnA.mono {x : Str} {j : Nat} (A : FnA g P w mg base j x F) (h : j ≤ k) : FnA g P w mg base k x F := by
  obtain ⟨f, fd, ps, ds, dvs, dd, F', ok, r⟩ := A.ex
  exact ⟨f, fd, ps, ds, dvs, dd, F', ok.mono h, r⟩
theorem MeA.of {x : Str} {c : Nat} (ok : FnOkG P w g.K mg base (L2.CX P w) k f fd ps (spD g ps.length F)) (hm : Meth g.K (g.ca c) x f) (b : Binds g.K fd ps []) : MeA g P w mg base k c x (lenI ps.length F) :=
  ⟨f, fd, ps, [], [], [], F, ok, hm, b, .nil, fun _ _ => RpL.nil, fun es h => by simp [lenI]⟩
theorem MeA.mono {x : Str} {c j : Nat} (A : MeA g P w mg base j c x F) (h : j ≤ k) : MeA g P w mg base k c x F := by
  obtain ⟨f, fd, ps, ds, dvs, dd, F', ok, r⟩ := A.ex
  exact ⟨f, fd, ps, ds, dvs, dd, F', ok.mono h, r⟩
theorem MkA.of {x : Str} {c : Nat} (ok : FnOkG P w g.K mg base (L2.CX P w) k f fd ps (spD g ps.length F)) (hm : Mk g.K (g.ca c) f) (hc : mg x = some (.ref (g.ca c))) (b : Binds g.K fd ps []) : MkA g P w mg base k c x (lenI ps.length F) :=
  ⟨f, fd, ps, [], [], [], F, ok, hm, hc, b, .nil, fun _ _ => RpL.nil, fun es h => by simp [lenI]⟩
theorem MkA.mono {x : Str} {c j : Nat} (A : MkA g P w mg base j c x F) (h : j ≤ k) : MkA g P w mg base k c x F := by
  obtain ⟨f, fd, ps, ds, dvs, dd, F', ok, r⟩ := A.ex
  exact ⟨f, fd, ps, ds, dvs, dd, F', ok.mono h, r⟩
theorem PrA.mono {y : Str} {c j : Nat} (A : PrA g P w mg base j c y F) (h : j ≤ k) : PrA g P w mg base k c y F := by
  obtain ⟨q, f, fd, x, ok, r⟩ := A.ex
  exact ⟨q, f, fd, x, ok.mono h, r⟩
theorem GtA.mono {c j : Nat} (A : GtA g P w mg base j c F) (h : j ≤ k) : GtA g P w mg base k c F := by
  obtain ⟨f, fd, ps, hl, ok, r⟩ := A.ex
  exact ⟨f, fd, ps, hl, ok.mono h, r⟩
end
theorem isB_ok {g : G} (c : isB g.K (g.ca 0) = true) : IsF g 1 (fun c d => c == d) := by
  unfold isB at c
  simp only [Bool.and_eq_true, decide_eq_true_eq, List.all_eq_true] at c
  obtain ⟨c1, c2, c3, c4, c5, c6⟩ := c
  have z : ∀ {c : Nat}, c < 1 → c = 0 := fun {c} h => by omega
  refine ⟨fun T hT c hc => ?_, fun c c' hc hc' => ?_, fun c hc T hT => ?_, fun c hc => ?_, c4, c5, fun c hc => ?_⟩
  · rw [z hc]; exact (c1 T hT).1
  · rw [z hc, z hc']; exact c2
  · rw [z hc]; exact (c1 T hT).2
  · rw [z hc]; exact c3
  · rw [z hc]; exact c6
end DL

set_option maxHeartbeats 1000000
/-! What a plain function comes to: reading it step by step, no program in sight. -/
namespace DL
open PySem PySem.Spec PyProof.Rows L2
/-- the answer is a value, and Q holds of it -/
def WR {α : Type} (r : Rs α) (Q : α → Hh → Prop) : Prop := match r with
  | .ok a h => Q a h
  | _ => False
/-- a block falls through (N), or returns (R) -/
def WS (r : Sr) (N : Env' → Hh → Prop) (R : D → Hh → Prop) : Prop := match r with
  | .nx de h => N de h
  | .rt d h => R d h
  | _ => False
section
variable {α β : Type} {h : Hh} {de : Env'} {N : Env' → Hh → Prop} {R : D → Hh → Prop}
theorem wr_ok {a : α} {Q : α → Hh → Prop} : WR (.ok a h) Q = Q a h := rfl
theorem wr_no {Q : α → Hh → Prop} : WR (.no : Rs α) Q = False := rfl
theorem wr_ex {x : XD} {Q : α → Hh → Prop} : WR (.ex x h : Rs α) Q = False := rfl
theorem WR.of {r : Rs α} {Q : α → Hh → Prop} (w : WR r Q) : ∃ a h, r = .ok a h ∧ Q a h := by
  cases r with
  | ok a h => exact ⟨a, h, rfl, w⟩
  | ex x h => exact False.elim w
  | no => exact False.elim w
theorem WR.mono {r : Rs α} {Q Q' : α → Hh → Prop} (w : WR r Q) (i : ∀ a h, Q a h → Q' a h) : WR r Q' := by
  obtain ⟨a, h, rfl, q⟩ := w.of
  exact i a h q
theorem WS.mono {r : Sr} {N' : Env' → Hh → Prop} {R' : D → Hh → Prop} (w : WS r N R) (i : ∀ de h, N de h → N' de h) (j : ∀ d h, R d h → R' d h) : WS r N' R' := by
  cases r with
  | nx de h => exact i _ _ w
  | rt d h => exact j _ _ w
  | _ => exact False.elim w
theorem wr_bd {r : Rs α} {k : α → Hh → Rs β} {Q : β → Hh → Prop} : WR (r.bd k) Q = WR r fun a h => WR (k a h) Q := by cases r <;> rfl
theorem ws_st {r : Rs α} {k : α → Hh → Sr} : WS (r.st de k) N R = WR r fun a h => WS (k a h) N R := by cases r <;> rfl
theorem ws_nx : WS (.nx de h) N R = N de h := rfl
theorem ws_rt {d : D} : WS (.rt d h) N R = R d h := rfl
theorem ws_no : WS .no N R = False := rfl
theorem ws_bk : WS (.bk de h) N R = False := rfl
theorem ws_ct : WS (.ct de h) N R = False := rfl
theorem ws_ex {x : XD} : WS (.ex x de h) N R = False := rfl
theorem wr_ofO {o : Option α} {Q : α → Hh → Prop} : WR (ofO o h) Q = ∃ d, o = some d ∧ Q d h := by
  cases o with
  | none => simp [ofO, WR]
  | some d => simp [ofO, WR]
theorem wr_ofP {o : Option (D × Hh)} {Q : D → Hh → Prop} : WR (ofP o) Q = ∃ d h, o = some (d, h) ∧ Q d h := by
  cases o with
  | none => simp [ofP, WR]
  | some d =>
    obtain ⟨d, h1⟩ := d
    exact propext ⟨fun q => ⟨d, h1, rfl, q⟩, fun ⟨_, _, e, q⟩ => by cases e; exact q⟩
theorem wr_ite {c : Prop} [Decidable c] {r : Rs α} {Q : α → Hh → Prop} : WR (if c then r else .no) Q = (c ∧ WR r Q) := by
  by_cases q : c <;> simp [q, WR]
/-! ### expressions -/
variable {f fa fb fi fo fc fv : Env' → Hh → Rs D} {fs : Env' → Hh → Rs (List D)} {t ta tb : Env' → Hh → Rs Bool} {Q : D → Hh → Prop} {QL : List D → Hh → Prop} {QB : Bool → Hh → Prop}
theorem w_v {i : Nat} : WR (dV i de h) Q = ∃ d, de[i]? = some (some d) ∧ Q d h := by
  unfold dV
  cases q : de[i]? with
  | none => simp [WR]
  | some o => cases o <;> simp [WR]
theorem w_c {d : D} : WR (dC d de h) Q = Q d h := rfl
theorem w_nil : WR (dNil de h) QL = QL [] h := rfl
theorem w_cons : WR (dCons f fs de h) QL = WR (f de h) fun x h1 => WR (fs de h1) fun xs h2 => QL (x :: xs) h2 := by unfold dCons; rw [wr_bd]; simp only [wr_bd, wr_ok]
theorem w_op {F : D → D → Hh → Option D} : WR (dOp F fa fb de h) Q = WR (fa de h) fun x h1 => WR (fb de h1) fun y h2 => ∃ d, F x y h2 = some d ∧ Q d h2 := by unfold dOp; simp only [wr_bd, wr_ofO]
theorem w_ix : WR (dIx fa fb de h) Q = WR (fa de h) fun x h1 => WR (fb de h1) fun y h2 => ∃ d, oIt x y h2 = some d ∧ Q d h2 := w_op
theorem w_bl : WR (dBl f de h) QB = WR (f de h) fun d h1 => ∃ b, blOf d = some b ∧ QB b h1 := by unfold dBl; simp only [wr_bd, wr_ofO]
theorem w_not : WR (dNot ta de h) QB = WR (ta de h) fun p h1 => QB (!p) h1 := by unfold dNot; simp only [wr_bd, wr_ok]
theorem w_fz : WR (dFz fs de h) Q = WR (fs de h) fun xs h1 => Q (.lst xs) h1 := by unfold dFz; simp only [wr_bd, wr_ok]
theorem w_disp : WR (dDisp fs de h) QL = WR (fs de h) fun xs h1 => lim xs.length = true ∧ QL xs h1 := by unfold dDisp; simp only [wr_bd, wr_ite, wr_ok]
theorem w_tup : WR (dTup fs de h) Q = WR (fs de h) fun xs h1 => lim xs.length = true ∧ Q (.tup xs) h1 := by unfold dTup; simp only [wr_bd, wr_ite, wr_ok]
theorem w_al : WR (dAl fs de h) Q = WR (fs de h) fun xs h1 => Q (.ref h1.length) (h1 ++ [.lst xs]) := by unfold dAl; simp only [wr_bd, wr_ok]
theorem w_blt {F : FB} : WR (dBlt F fs de h) Q = WR (fs de h) fun ds h1 => ∃ d h2, F ds h1 = some (d, h2) ∧ Q d h2 := by unfold dBlt; simp only [wr_bd, wr_ofP]
theorem w_bm {isT : Hh → D → Bool} {F : FM} : WR (dBm isT F fo fs de h) Q = WR (fo de h) fun d h1 => isT h1 d = true ∧ WR (fs de h1) fun ds h2 => ∃ y h3, F d ds h2 = some (y, h3) ∧ Q y h3 := by unfold dBm; simp only [wr_bd, wr_ite, wr_ofP]
theorem w_call {F : Fn} : WR (dCall F fs de h) Q = WR (fs de h) fun ds h1 => WR (F ds h1) Q := by unfold dCall; simp only [wr_bd]
theorem w_and : WR (dAnd ta tb de h) QB = WR (ta de h) fun p h1 => (p = true → WR (tb de h1) QB) ∧ (p = false → QB false h1) := by
  unfold dAnd; rw [wr_bd]; congr; funext p h1; cases p <;> simp [wr_ok]
theorem w_or : WR (dOr ta tb de h) QB = WR (ta de h) fun p h1 => (p = true → QB true h1) ∧ (p = false → WR (tb de h1) QB) := by
  unfold dOr; rw [wr_bd]; congr; funext p h1; cases p <;> simp [wr_ok]
theorem w_andV : WR (dAndV fa fb de h) Q = WR (fa de h) fun d h1 => ∃ p, blOf d = some p ∧ (p = true → WR (fb de h1) Q) ∧ (p = false → Q (.bl false) h1) := by
  unfold dAndV; rw [wr_bd]; congr; funext d h1; cases blOf d with
  | none => simp [wr_no]
  | some p => cases p <;> simp [wr_ok]
theorem w_orV : WR (dOrV fa fb de h) Q = WR (fa de h) fun d h1 => ∃ p, blOf d = some p ∧ (p = true → Q (.bl true) h1) ∧ (p = false → WR (fb de h1) Q) := by
  unfold dOrV; rw [wr_bd]; congr; funext d h1; cases blOf d with
  | none => simp [wr_no]
  | some p => cases p <;> simp [wr_ok]
theorem w_notV : WR (dNotV fa de h) Q = WR (fa de h) fun d h1 => ∃ p, blOf d = some p ∧ Q (.bl (!p)) h1 := by
  unfold dNotV; rw [wr_bd]; congr; funext d h1; cases blOf d <;> simp [wr_no, wr_ok]
theorem w_if : WR (dIf t fa fb de h) Q = WR (t de h) fun p h1 => (p = true → WR (fa de h1) Q) ∧ (p = false → WR (fb de h1) Q) := by
  unfold dIf; rw [wr_bd]; congr; funext p h1; cases p <;> simp
theorem w_os {Q : Option Int → Hh → Prop} : WR (oS f de h) Q = WR (f de h) fun d h1 => ∃ i, d = .int i ∧ Q (some i) h1 := by
  unfold oS; rw [wr_bd]; congr; funext d h1; cases d <;> simp [wr_no, wr_ok]
theorem w_on {Q : Option Int → Hh → Prop} : WR (oN de h) Q = Q none h := rfl
theorem w_sl {fl fu : OI} : WR (dSl fo fl fu de h) Q = WR (fo de h) fun d h1 => WR (fl de h1) fun l h2 => WR (fu de h2) fun u h3 => ∃ y, oCut d l u h3 = some y ∧ Q y h3 := by unfold dSl; simp only [wr_bd, wr_ofO]
theorem w_attr {f : Nat} : WR (dAttr f fo de h) Q = WR (fo de h) fun d h1 => ∃ y, ((insOf h1 d).bind fun p => lookF p.2.2 f) = some y ∧ Q y h1 := by unfold dAttr; simp only [wr_bd, wr_ofO]
theorem w_prop {c : Nat} {F : Fn} : WR (dProp c F fo de h) Q = WR (fo de h) fun d h1 => ∃ i fs, insOf h1 d = some (i, c, fs) ∧ WR (F [d] h1) Q := by
  unfold dProp; rw [wr_bd]; congr; funext d h1
  cases q : insOf h1 d with
  | none => simp [wr_no]
  | some z =>
    obtain ⟨i, c', fs⟩ := z
    by_cases e : c' = c
    · subst e
      simp only [if_true]
      cases F [d] h1 <;> simp [WR]
    · simp [e, wr_no]
theorem w_meth {c : Nat} {F : Fn} : WR (dMeth c F fo fs de h) Q = WR (fo de h) fun d h1 => (∃ i fl, insOf h1 d = some (i, c, fl)) ∧ WR (fs de h1) fun ds h2 => WR (F (d :: ds) h2) Q := by
  unfold dMeth; rw [wr_bd]; congr; funext d h1
  cases q : insOf h1 d with
  | none => simp [wr_no]
  | some z =>
    obtain ⟨i, c', fl⟩ := z
    by_cases e : c' = c
    · subst e; simp [wr_bd]
    · simp [e, wr_no]
theorem w_own {c : Nat} {F : Fn} : WR (dOwn c F fo fi de h) Q = WR (fo de h) fun d h1 => WR (fi de h1) fun y h2 => (∃ i fl, insOf h2 d = some (i, c, fl)) ∧ WR (F [d, y] h2) Q := by
  unfold dOwn; simp only [wr_bd]; congr; funext d h1; congr; funext y h2
  cases q : insOf h2 d with
  | none => simp [wr_no]
  | some z =>
    obtain ⟨i, c', fl⟩ := z
    by_cases e : c' = c
    · subst e; simp
    · simp [e, wr_no]
theorem w_make {c : Nat} {F : Fn} : WR (dMake c F fs de h) Q = WR (fs de h) fun ds h1 => WR (F (.ref h1.length :: ds) (h1 ++ [.ins c []])) fun v h2 => v = .non ∧ Q (.ref h1.length) h2 := by
  unfold dMake made; simp only [wr_bd]; congr; funext ds h1; congr; funext v h2
  cases v <;> simp [wr_ok, wr_no]
/-! ### statements -/
variable {k u : Env' → Hh → Sr}
theorem w_snil : WS (sNil de h) N R = N de h := rfl
theorem w_seq : WS (sSeq k u de h) N R = WS (k de h) (fun de1 h1 => WS (u de1 h1) N R) R := by unfold sSeq; cases k de h <;> rfl
theorem w_set {i : Nat} : WS (sSet i f de h) N R = WR (f de h) fun d h1 => N (de.set i (some d)) h1 := by unfold sSet; simp only [ws_st, ws_nx]
theorem w_ret : WS (sRet f de h) N R = WR (f de h) R := by unfold sRet; simp only [ws_st, ws_rt]
theorem w_sif : WS (sIf t k u de h) N R = WR (t de h) fun p h1 => (p = true → WS (k de h1) N R) ∧ (p = false → WS (u de h1) N R) := by
  unfold sIf; rw [ws_st]; congr; funext p h1; cases p <;> simp
theorem w_sno : WS (sNo de h) N R = False := rfl
theorem w_expr : WS (sExpr f de h) N R = WR (f de h) fun _ h1 => N de h1 := by unfold sExpr; simp only [ws_st, ws_nx]
theorem w_asg {F : GD} : WS (sAsg f F de h) N R = WR (f de h) fun d h1 => ∃ de' h', F d de h1 = some (de', h') ∧ N de' h' := by
  unfold sAsg; rw [ws_st]; congr; funext d h1
  cases F d de h1 with
  | none => simp [ws_no]
  | some z =>
    obtain ⟨a, b⟩ := z
    exact propext ⟨fun q => ⟨a, b, rfl, q⟩, fun ⟨_, _, e, q⟩ => by cases e; exact q⟩
theorem w_run {m : Nat} {kf : Env' → Hh → Sr} {ds : List D} : WR (runB m kf ds h) Q = WS (kf (ds.map some ++ List.replicate m none) h) (fun _ h1 => Q .non h1) Q := by
  unfold runB; cases kf (ds.map some ++ List.replicate m none) h <;> rfl
theorem w_len {n : Nat} {F : Fn} {ds : List D} : WR (lenI n F ds h) Q = (ds.length = n ∧ WR (F ds h) Q) := by unfold lenI; rw [wr_ite]
/-- a loop over things: an invariant over what is done and what is left -/
theorem w_loop {s : Src} {G : GD} {ks : List Nat} (I : List D → Env' → Hh → Prop) (hs : ∀ xs de h, I xs de h → s.ok h)
    (step : ∀ x xs de h, I (x :: xs) de h → ∃ de1 h1, G x de h = some (de1, h1) ∧ WS (k de1 h1) (fun de2 h2 => I xs (kill de2 ks) h2) R)
    (fin : ∀ de h, I [] de h → N de h) : ∀ xs de h, I xs de h → WS (loopS s G k ks xs de h) N R
  | [], de, h, i => by
    unfold loopS
    rw [if_pos (hs _ _ _ i)]
    exact fin _ _ i
  | x :: xs, de, h, i => by
    obtain ⟨de1, h1, e, w⟩ := step _ _ _ _ i
    unfold loopS
    rw [if_pos (hs _ _ _ i), e]
    show WS (match k de1 h1 with
      | .nx de2 h2 => loopS s G k ks xs (kill de2 ks) h2
      | .ct de2 h2 => loopS s G k ks xs (kill de2 ks) h2
      | .bk de2 h2 => .nx de2 h2
      | r => r) N R
    cases q : k de1 h1 with
    | nx de2 h2 =>
      rw [q] at w
      exact w_loop I hs step fin xs _ _ w
    | rt d h2 =>
      rw [q] at w
      exact w
    | _ =>
      rw [q] at w
      exact False.elim w
/-- a comprehension: an invariant over what is left and what is found -/
theorem w_comp {s : Src} {F : GD} (I : List D → List D → Hh → Prop) (hs : ∀ xs acc h, I xs acc h → s.ok h)
    (step : ∀ x xs acc h, I (x :: xs) acc h → ∃ de1 h1, F x de h = some (de1, h1) ∧ WR (t de1 h1) fun p h2 => (p = true → WR (f de1 h2) fun y h3 => I xs (acc ++ [y]) h3) ∧ (p = false → I xs acc h2))
    (fin : ∀ acc h, I [] acc h → QL acc h) : ∀ xs acc h, I xs acc h → WR (compL s F t f de xs acc h) QL
  | [], acc, h, i => by
    unfold compL
    rw [if_pos (hs _ _ _ i)]
    exact fin _ _ i
  | x :: xs, acc, h, i => by
    obtain ⟨de1, h1, e, w⟩ := step _ _ _ _ i
    obtain ⟨p, h2, e2, w⟩ := w.of
    unfold compL
    rw [if_pos (hs _ _ _ i), e]
    simp only [e2]
    cases p with
    | true =>
      obtain ⟨y, h3, e3, w⟩ := (w.1 rfl).of
      simp only [e3]
      exact w_comp I hs step fin xs _ _ w
    | false => exact w_comp I hs step fin xs _ _ (w.2 rfl)
end
end DL

set_option maxHeartbeats 1000000
/-! A plain function with its junk cut: what it gives is frozen, new objects go (but those that kf names). -/
namespace DL
open PySem PySem.Spec PyProof.Rows L2
def gcC (h h' : Hh) (ks : List Nat) : Prop := h.length ≤ h'.length ∧ (∀ (i : Nat) (o : AO), i < h.length → h'[i]? = some o → h[i]? = some o ∨ o.nr h.length) ∧ ks.Nodup ∧ ∀ k ∈ ks, h.length ≤ k ∧ k < h'.length
open Classical in
noncomputable def gcF (kf : D → List Nat) (F : Fn) : Fn := fun ds h => match F ds h with
  | .ok d h' => if gcC h h' (kf d) then (match norm h' h.length (kf d) 12 d, mapO (fun k => (h'[k]?).bind (normO h' h.length (kf d) 12)) (kf d) with
    | some d2, some ns => .ok d2 (h'.take h.length ++ ns)
    | _, _ => .no) else .no
  | .ex x h' => if gcC h h' [] then (match normF h' h.length [] 12 x.fs with
    | some fs => .ex ⟨x.c, fs⟩ (h'.take h.length)
    | none => .no) else .no
  | .no => .no
theorem gcC.old {h h' : Hh} {ks : List Nat} (c : gcC h h' ks) : Old h h' (h'.take h.length) ∧ (h'.take h.length).length = h.length := by
  obtain ⟨c1, c2, _⟩ := c
  refine ⟨⟨c1, fun i o hi e => ⟨?_, c2 i o hi e⟩⟩, by rw [List.length_take]; omega⟩
  rw [List.getElem?_take_of_lt hi]
  exact e
/-- a plain function says what S says, junk cut -/
def Says (n : Nat) (F S : Fn) : Prop := ∀ ds h, ds.length = n → D.nrL h.length ds → S ds h ≠ .no → GcTo h (F ds h) (S ds h)
theorem gcF_says (n : Nat) (kf : D → List Nat) (F : Fn) : Says n F (gcF kf F) := by
  intro ds h _ _ nn
  unfold gcF at nn ⊢
  cases q : F ds h with
  | no => rw [q] at nn; exact absurd rfl nn
  | ok d h' =>
    rw [q] at nn
    simp only at nn ⊢
    by_cases c : gcC h h' (kf d)
    · simp only [c, if_true] at nn ⊢
      cases q1 : norm h' h.length (kf d) 12 d with
      | none => simp only [q1] at nn; exact absurd rfl nn
      | some d2 =>
        cases q2 : mapO (fun k => (h'[k]?).bind (normO h' h.length (kf d) 12)) (kf d) with
        | none => simp only [q1, q2] at nn; exact absurd rfl nn
        | some ns =>
          simp only
          exact ⟨d, h', kf d, rfl, ⟨⟨_, ns, c.old.1, c.old.2, rfl, q2⟩, c.2.2.1, c.2.2.2⟩, q1⟩
    · simp only [c, if_false] at nn
      exact absurd rfl nn
  | ex x h' =>
    rw [q] at nn
    simp only at nn ⊢
    by_cases c : gcC h h' []
    · simp only [c, if_true] at nn ⊢
      cases q1 : normF h' h.length [] 12 x.fs with
      | none => simp only [q1] at nn; exact absurd rfl nn
      | some d2 =>
        simp only
        exact ⟨x, h', [], rfl, ⟨⟨_, [], c.old.1, c.old.2, by simp, rfl⟩, c.2.2.1, c.2.2.2⟩, rfl, q1⟩
    · simp only [c, if_false] at nn
      exact absurd rfl nn
/-- .. read: nothing is kept -/
theorem wr_gc {F : Fn} {ds : List D} {h : Hh} {Q : D → Hh → Prop} (w : WR (F ds h) fun d h' => gcC h h' [] ∧ ∃ d2, norm h' h.length [] 12 d = some d2 ∧ Q d2 (h'.take h.length)) : WR (gcF (fun _ => []) F ds h) Q := by
  obtain ⟨d, h', e, c, d2, n, q⟩ := w.of
  unfold gcF
  rw [e]
  simp only [c, if_true, n, mapO, List.append_nil]
  exact q
theorem wr_gcK {kf : D → List Nat} {F : Fn} {ds : List D} {h : Hh} {Q : D → Hh → Prop} (w : WR (F ds h) fun d h' => gcC h h' (kf d) ∧ ∃ d2 ns, norm h' h.length (kf d) 12 d = some d2 ∧ mapO (fun k => (h'[k]?).bind (normO h' h.length (kf d) 12)) (kf d) = some ns ∧ Q d2 (h'.take h.length ++ ns)) : WR (gcF kf F ds h) Q := by
  obtain ⟨d, h', e, c, d2, ns, n, m, q⟩ := w.of
  unfold gcF
  rw [e]
  simp only [c, if_true, n, m]
  exact q
/-! ### what is cut -/
/-- the old objects, new ones behind -/
theorem gcC_app {h h1 js : Hh} (hl : h1.length = h.length) (ha : ∀ (i : Nat) (o : AO), h1[i]? = some o → h[i]? = some o ∨ o.nr h.length) : gcC h (h1 ++ js) [] := by
  refine ⟨by simp [hl], fun i o hi e => ?_, List.nodup_nil, fun k hk => by cases hk⟩
  rw [List.getElem?_append_left (by omega)] at e
  exact ha i o e
theorem gcC_refl {h : Hh} : gcC h h [] := ⟨Nat.le_refl _, fun i o _ e => .inl e, List.nodup_nil, fun k hk => by cases hk⟩
theorem take_app {h h1 js : Hh} (hl : h1.length = h.length) : (h1 ++ js).take h.length = h1 := by rw [← hl]; simp
/-- plain through and through: no object from m on; depth below n -/
def flatN (m : Nat) : Nat → D → Bool
  | 0, _ => false
  | n + 1, d => match d with
    | .tup xs => xs.all (flatN m n)
    | .lst xs => xs.all (flatN m n)
    | .dct _ _ xs => xs.all (flatN m n)
    | .ref i => Nat.blt i m
    | _ => true
theorem mapO_id {f : D → Option D} : ∀ {xs : List D}, (∀ x ∈ xs, f x = some x) → mapO f xs = some xs
  | [], _ => rfl
  | x :: xs, h => by
    unfold mapO
    rw [h x (List.mem_cons_self), mapO_id (fun y hy => h y (List.mem_cons_of_mem _ hy))]
theorem norm_flat {h : Hh} {n m : Nat} {ks : List Nat} (hm : m ≤ n) : ∀ {k : Nat} {d : D}, flatN m k d = true → norm h n ks k d = some d
  | 0, d, e => by cases e
  | k + 1, d, e => by
    cases d with
    | tup xs =>
      have e' : xs.all (flatN m k) = true := e
      show (mapO (norm h n ks k) xs).map D.tup = _
      rw [mapO_id fun x hx => norm_flat hm (List.all_eq_true.mp e' x hx)]
      rfl
    | lst xs =>
      have e' : xs.all (flatN m k) = true := e
      show (mapO (norm h n ks k) xs).map D.lst = _
      rw [mapO_id fun x hx => norm_flat hm (List.all_eq_true.mp e' x hx)]
      rfl
    | dct t ys xs =>
      have e' : xs.all (flatN m k) = true := e
      show (mapO (norm h n ks k) xs).map (D.dct t ys) = _
      rw [mapO_id fun x hx => norm_flat hm (List.all_eq_true.mp e' x hx)]
      rfl
    | ref i =>
      have e' : Nat.blt i m = true := e
      have : i < m := Nat.blt_eq.mp e'
      show (if i < n then some (D.ref i) else _) = _
      rw [if_pos (by omega)]
    | _ => rfl
/-- a new list whose things are plain -/
theorem norm_lst {h : Hh} {n m i : Nat} {k : Nat} {xs : List D} (hm : m ≤ n) (hi : n ≤ i) (e : h[i]? = some (.lst xs)) (f : xs.all (flatN m k) = true) : norm h n [] (k + 1) (.ref i) = some (.lst xs) := by
  show (if i < n then some (D.ref i) else match ([] : List Nat).findIdx? (· == i) with
      | some j => some (.ref (n + j))
      | none => match h[i]? with
        | some (.lst xs) => (mapO (norm h n [] k) xs).map .lst
        | some (.dct t kvs) => (mapO (norm h n [] k) (kvs.map (·.2))).map (.dct t (kvs.map (·.1)))
        | _ => none) = _
  rw [if_neg (by omega), e]
  show (mapO (norm h n [] k) xs).map D.lst = _
  rw [mapO_id fun x hx => norm_flat hm (List.all_eq_true.mp f x hx)]
  rfl
theorem norm_dct {h : Hh} {n m i : Nat} {k : Nat} {t : Bool} {kvs : List (D × D)} (hm : m ≤ n) (hi : n ≤ i) (e : h[i]? = some (.dct t kvs)) (f : (kvs.map (·.2)).all (flatN m k) = true) : norm h n [] (k + 1) (.ref i) = some (.dct t (kvs.map (·.1)) (kvs.map (·.2))) := by
  show (if i < n then some (D.ref i) else match ([] : List Nat).findIdx? (· == i) with
      | some j => some (.ref (n + j))
      | none => match h[i]? with
        | some (.lst xs) => (mapO (norm h n [] k) xs).map .lst
        | some (.dct t kvs) => (mapO (norm h n [] k) (kvs.map (·.2))).map (.dct t (kvs.map (·.1)))
        | _ => none) = _
  rw [if_neg (by omega), e]
  show (mapO (norm h n [] k) (kvs.map (·.2))).map (D.dct t (kvs.map (·.1))) = _
  rw [mapO_id fun x hx => norm_flat hm (List.all_eq_true.mp f x hx)]
  rfl
end DL

set_option maxHeartbeats 1000000
/-! More rules for reading plain functions. -/
namespace DL
open PySem PySem.Spec PyProof.Rows L2
section
variable {α β : Type} {h : Hh} {de : Env'} {N : Env' → Hh → Prop} {R : D → Hh → Prop}
variable {f fa fb fi fo fc fv fk : Env' → Hh → Rs D} {fs : Env' → Hh → Rs (List D)} {t ta tb : Env' → Hh → Rs Bool} {Q : D → Hh → Prop} {QL : List D → Hh → Prop} {QB : Bool → Hh → Prop} {QM : List (D × D) → Hh → Prop} {QS : Src → Hh → Prop} {k u : Env' → Hh → Sr}
theorem w_chain {F F' : D → D → Hh → Option D} : WR (dChain F F' fa fb fc de h) Q = WR (fa de h) fun x h1 => WR (fb de h1) fun y h2 => ∃ d, F x y h2 = some d ∧ ∃ b, blOf d = some b ∧ (b = true → WR (fc de h2) fun z h3 => ∃ e, F' y z h3 = some e ∧ Q e h3) ∧ (b = false → Q (.bl false) h2) := by
  unfold dChain; rw [wr_bd]; congr; funext x h1; rw [wr_bd]; congr; funext y h2
  cases q : F x y h2 with
  | none => simp [wr_no]
  | some d =>
    cases q2 : blOf d with
    | none => simp [wr_no, q2]
    | some b => cases b <;> simp [wr_ok, q2, wr_bd, wr_ofO]
theorem w_par {i j : Nat} : WS (sPar i j fs de h) N R = WR (fs de h) fun ds h1 => ∃ x y, ds = [x, y] ∧ N ((de.set i (some x)).set j (some y)) h1 := by
  unfold sPar; rw [ws_st]; congr; funext ds h1
  match ds with
  | [] => simp [ws_no]
  | [x] => simp [ws_no]
  | [x, y] => exact propext ⟨fun n => ⟨x, y, rfl, n⟩, fun ⟨_, _, e, n⟩ => by cases e; exact n⟩
  | x :: y :: z :: r => simp [ws_no]
theorem w_par3 {i j l : Nat} : WS (sPar3 i j l fs de h) N R = WR (fs de h) fun ds h1 => ∃ x y z, ds = [x, y, z] ∧ N (((de.set i (some x)).set j (some y)).set l (some z)) h1 := by
  unfold sPar3; rw [ws_st]; congr; funext ds h1
  match ds with
  | [] => simp [ws_no]
  | [x] => simp [ws_no]
  | [x, y] => simp [ws_no]
  | [x, y, z] => exact propext ⟨fun n => ⟨x, y, z, rfl, n⟩, fun ⟨_, _, _, e, n⟩ => by cases e; exact n⟩
  | x :: y :: z :: a :: r => simp [ws_no]
theorem w_setF {i : Nat} : WS (sSetN i false fs de h) N R = WR (fs de h) fun xs h1 => N (de.set i (some (.lst xs))) h1 := by unfold sSetN; simp only [ws_st, ws_nx]
theorem w_setT {i : Nat} : WS (sSetN i true fs de h) N R = WR (fs de h) fun xs h1 => N (de.set i (some (.ref h1.length))) (h1 ++ [.lst xs]) := by unfold sSetN; simp only [ws_st, ws_nx]
theorem w_fzM {t : Bool} {fm : Env' → Hh → Rs (List (D × D))} : WR (dFzM t fm de h) Q = WR (fm de h) fun kvs h1 => Q (.dct t (kvs.map (·.1)) (kvs.map (·.2))) h1 := by unfold dFzM; simp only [wr_bd, wr_ok]
theorem w_alM {t : Bool} {fm : Env' → Hh → Rs (List (D × D))} : WR (dAlM t fm de h) Q = WR (fm de h) fun kvs h1 => Q (.ref h1.length) (h1 ++ [.dct t kvs]) := by unfold dAlM; simp only [wr_bd, wr_ok]
theorem w_mnew : WR ((fun (_ : Env') h => (Rs.ok [] h : Rs (List (D × D)))) de h) QM = QM [] h := rfl
theorem w_pnil : WR (pNil de h) QM = QM [] h := rfl
theorem w_pcons {fp : Env' → Hh → Rs (List (D × D))} : WR (pCons fk fv fp de h) QM = WR (fk de h) fun x h1 => WR (fv de h1) fun y h2 => WR (fp de h2) fun ps h3 => QM ((x, y) :: ps) h3 := by unfold pCons; simp only [wr_bd, wr_ok]
theorem w_mdisp {fp : Env' → Hh → Rs (List (D × D))} : WR (mDisp fp de h) QM = WR (fp de h) fun ps h1 => Nat.ble ps.length 15 = true ∧ ∃ kvs, mergeP [] ps = some kvs ∧ QM kvs h1 := by
  unfold mDisp; simp only [wr_bd, wr_ite, wr_ofO]
theorem w_for {G : GD} {fi : Env' → Hh → Rs Src} {ks : List Nat} : WS (sFor fi G k ks de h) N R = WR (fi de h) fun s h1 => WS (loopS s G k ks s.items de h1) N R := by unfold sFor; rw [ws_st]
theorem w_dcomp {F : GD} {fi : Env' → Hh → Rs Src} {vs : List Nat} : WR (dComp fi F t f vs de h) QL = WR (fi de h) fun s h1 => WR (compL s F t f (kill de vs) s.items [] h1) QL := by unfold dComp; rw [wr_bd]
theorem w_dcompM {F : GD} {fi : Env' → Hh → Rs Src} {vs : List Nat} : WR (dCompM fi F t fk f vs de h) QM = WR (fi de h) fun s h1 => WR (compM s F t fk f (kill de vs) s.items [] h1) QM := by unfold dCompM; rw [wr_bd]
theorem w_rng1 : WR (iRng1 fs de h) QS = WR (fs de h) fun ds h1 => ∃ j, ds = [.int j] ∧ (lim j.toNat && decide (-4611686018427387904 ≤ j)) = true ∧ QS ⟨none, ups 0 j.toNat⟩ h1 := by
  unfold iRng1; rw [wr_bd]; congr; funext ds h1
  match ds with
  | [] => simp [wr_no]
  | [.int j] =>
    by_cases q : (lim j.toNat && decide (-4611686018427387904 ≤ j)) = true
    · simp only [q, if_true, wr_ok]
      exact propext ⟨fun n => ⟨j, rfl, q, n⟩, fun ⟨_, e, _, n⟩ => by cases e; exact n⟩
    · simp only [q, wr_no]
      exact propext ⟨fun n => n.elim, fun ⟨_, e, z, n⟩ => by cases e; exact q z⟩
  | [.non] => simp [wr_no]
  | [.bl _] => simp [wr_no]
  | [.str _] => simp [wr_no]
  | [.tup _] => simp [wr_no]
  | [.lst _] => simp [wr_no]
  | [.dct _ _ _] => simp [wr_no]
  | [.ref _] => simp [wr_no]
  | [.ty _] => simp [wr_no]
  | [.cls _] => simp [wr_no]
  | [.scr _] => simp [wr_no]
  | x :: y :: r => cases x <;> simp [wr_no]
theorem w_ival : WR (iVal f de h) QS = WR (f de h) fun d h1 => ∃ s, srcOf h1 d = some s ∧ QS s h1 := by unfold iVal; simp only [wr_bd, wr_ofO]
theorem w_ikeys : WR (iKeysD f de h) QS = WR (f de h) fun d h1 => ∃ s, keysSrc h1 d = some s ∧ QS s h1 := by unfold iKeysD; simp only [wr_bd, wr_ofO]
theorem w_zip : WR (iZipD fs de h) QS = WR (fs de h) fun ds h1 => ∃ xs ys, ds = [.lst xs, .lst ys] ∧ lim xs.length = true ∧ QS ⟨none, zipD xs ys⟩ h1 := by
  unfold iZipD; rw [wr_bd]; congr; funext ds h1
  split
  · rename_i xs ys
    by_cases q : lim xs.length = true
    · simp only [q, if_true, wr_ok]
      exact propext ⟨fun n => ⟨xs, ys, rfl, q, n⟩, fun ⟨_, _, e, _, n⟩ => by cases e; exact n⟩
    · simp only [q, wr_no]
      exact propext ⟨fun n => n.elim, fun ⟨_, _, e, z, _⟩ => by cases e; exact q z⟩
  · rename_i k
    exact propext ⟨fun n => n.elim, fun ⟨xs, ys, e, _, _⟩ => k xs ys e⟩
theorem w_enum : WR (iEnumD fs de h) QS = WR (fs de h) fun ds h1 => ∃ xs, ds = [.lst xs] ∧ lim xs.length = true ∧ QS ⟨none, enumD xs⟩ h1 := by
  unfold iEnumD; rw [wr_bd]; congr; funext ds h1
  split
  · rename_i xs
    by_cases q : lim xs.length = true
    · simp only [q, if_true, wr_ok]
      exact propext ⟨fun n => ⟨xs, rfl, q, n⟩, fun ⟨_, e, _, n⟩ => by cases e; exact n⟩
    · simp only [q, wr_no]
      exact propext ⟨fun n => n.elim, fun ⟨_, e, z, _⟩ => by cases e; exact q z⟩
  · rename_i k
    exact propext ⟨fun n => n.elim, fun ⟨xs, e, _, _⟩ => k xs e⟩
theorem w_elock {j : Nat} {fl : Env' → Hh → Rs α} {Q : α → Hh → Prop} {i : Nat} {t : Bool} {kvs : List (D × D)} (e : lockOf j de h = some (i, t, kvs)) (w : WR (fl de (h.set i (.lock t kvs))) fun d h' => ∃ h2, unlk i h' = some h2 ∧ Q d h2) : WR (eLock j fl de h) Q := by
  obtain ⟨d, h', e2, h2, e3, q⟩ := w.of
  unfold eLock
  simp only [e, e2, e3]
  exact q
def stepD (d s : D) : Option D := match d, s with
  | .lst xs, .int i => if i = 1 then some (D.lst xs) else if i = -1 then some (.lst xs.reverse) else none
  | _, _ => none
theorem w_dstep : WR (dStep fo fi de h) Q = WR (fo de h) fun d h1 => WR (fi de h1) fun s h2 => ∃ y, stepD d s = some y ∧ Q y h2 := by unfold dStep; simp only [wr_bd, wr_ofO]; rfl
theorem w_neg : WR (dNeg fa de h) Q = WR (fa de h) fun d h1 => ∃ i, d = .int i ∧ Q (.int (-i)) h1 := by
  unfold dNeg; rw [wr_bd]; congr; funext d h1; cases d <;> simp [ofO, wr_no, wr_ok]
theorem w_con {d : D} {c : Nat} : WR (dCon d fo c de h) Q = WR (fo de h) fun x h1 => x = .cls c ∧ Q d h1 := by
  unfold dCon; rw [wr_bd]; congr; funext x h1
  cases x with
  | cls c' =>
    by_cases e : c' = c
    · subst e; simp [wr_ok]
    · simp [e, wr_no]
  | _ => simp [wr_no]
theorem w_sattr {f : Nat} : WS (sAttr f fo fv de h) N R = WR (fv de h) fun y h1 => WR (fo de h1) fun d h2 => ∃ i c fs, insOf h2 d = some (i, c, fs) ∧ fs.length < 1000 ∧ N de (h2.set i (.ins c (setF fs f y))) := by
  unfold sAttr; rw [ws_st]; congr; funext y h1; rw [ws_st]; congr; funext d h2
  cases q : insOf h2 d with
  | none => simp [ws_no]
  | some z =>
    obtain ⟨i, c, fs⟩ := z
    by_cases e : fs.length < 1000
    · simp only [e, if_true, ws_nx]
      exact propext ⟨fun n => ⟨i, c, fs, rfl, e, n⟩, fun ⟨_, _, _, z, _, n⟩ => by cases z; exact n⟩
    · simp only [e, if_false, ws_no]
      exact propext ⟨fun n => n.elim, fun ⟨_, _, _, z, y, _⟩ => by cases z; exact e y⟩
theorem w_dan : WR (daN de h) QL = QL [] h := rfl
theorem w_tys : WR (tYs de h) QB = QB true h := rfl
theorem w_catA : WR (dCatA fa fb de h) Q = WR (fa de h) fun x h1 => WR (fb de h1) fun y h2 => ∃ xs, lstOf h2 x = some xs ∧ ∃ ys, lstOf h2 y = some ys ∧ lim (xs.length + ys.length) = true ∧ Q (.ref h2.length) (h2 ++ [.lst (xs ++ ys)]) := by
  unfold dCatA; rw [wr_bd]; congr; funext x h1; rw [wr_bd]; congr; funext y h2
  cases q : lstOf h2 x with
  | none => simp [wr_no]
  | some xs =>
    cases q2 : lstOf h2 y with
    | none => simp [wr_no]
    | some ys => simp [wr_ite, wr_ok]
theorem w_brk : WS (sBrk de h) N R = False := rfl
/-- a while: an invariant with a measure -/
theorem w_while {ks : List Nat} (I : Nat → Env' → Hh → Prop) (step : ∀ m de h, I m de h → WR (t de h) fun b h1 => (b = true → WS (k de h1) (fun de2 h2 => ∃ m', m' < m ∧ I m' (kill de2 ks) h2) R) ∧ (b = false → N de h1)) : ∀ (n m : Nat) (de : Env') (h : Hh), m < n → I m de h → WS (whileS t k ks n de h) N R
  | 0, m, de, h, hm, _ => absurd hm (by omega)
  | n + 1, m, de, h, hm, i => by
    have s := step m de h i
    unfold whileS
    rw [ws_st]
    refine s.mono fun b h1 z => ?_
    cases b with
    | false => exact z.2 rfl
    | true =>
      have w := z.1 rfl
      show WS (match k de h1 with
        | .nx de2 h2 => whileS t k ks n (kill de2 ks) h2
        | .ct de2 h2 => whileS t k ks n (kill de2 ks) h2
        | .bk de2 h2 => .nx de2 h2
        | r => r) N R
      cases q : k de h1 with
      | nx de2 h2 =>
        rw [q] at w
        obtain ⟨m', hm', i'⟩ := w
        exact w_while I step n m' _ _ (by omega) i'
      | rt d h2 => rw [q] at w; exact w
      | _ => rw [q] at w; exact False.elim w
/-- a comprehension that maps, nothing written -/
theorem w_cmap {s : Src} {F : GD} (g : D → D) (hs : s.ok h) (xs : List D) (acc : List D) (step : ∀ x ∈ xs, ∃ de1, F x de h = some (de1, h) ∧ WR (t de1 h) fun p h2 => p = true ∧ h2 = h ∧ WR (f de1 h) fun y h3 => y = g x ∧ h3 = h) (q : QL (acc ++ xs.map g) h) : WR (compL s F t f de xs acc h) QL := by
  induction xs generalizing acc with
  | nil =>
    unfold compL
    rw [if_pos hs]
    rw [List.map_nil, List.append_nil] at q
    exact q
  | cons x xs ih =>
    obtain ⟨de1, e, w⟩ := step x List.mem_cons_self
    obtain ⟨p, h2, e2, rfl, rfl, w2⟩ := w.of
    obtain ⟨y, h3, e3, rfl, rfl⟩ := w2.of
    unfold compL
    rw [if_pos hs, e]
    simp only [e2, e3]
    exact ih (acc ++ [g x]) (fun z hz => step z (List.mem_cons_of_mem _ hz)) (by rw [List.append_assoc]; exact q)
/-- a comprehension of a dict: an invariant over what is left and what is found -/
theorem w_cdict {s : Src} {F : GD} (I : List D → List (D × D) → Hh → Prop) (hs : ∀ xs acc h, I xs acc h → s.ok h)
    (step : ∀ x xs acc h, I (x :: xs) acc h → ∃ de1 h1, F x de h = some (de1, h1) ∧ WR (t de1 h1) fun p h2 => (p = true → WR (fk de1 h2) fun y h3 => WR (f de1 h3) fun z h4 => ∃ c, keyOf y = some c ∧ I xs (putP keyOf acc y c z) h4) ∧ (p = false → I xs acc h2))
    (fin : ∀ acc h, I [] acc h → QM acc h) : ∀ xs acc h, I xs acc h → WR (compM s F t fk f de xs acc h) QM
  | [], acc, h, i => by
    unfold compM
    rw [if_pos (hs _ _ _ i)]
    exact fin _ _ i
  | x :: xs, acc, h, i => by
    obtain ⟨de1, h1, e, w⟩ := step _ _ _ _ i
    obtain ⟨p, h2, e2, w⟩ := w.of
    unfold compM
    rw [if_pos (hs _ _ _ i), e]
    simp only [e2]
    cases p with
    | true =>
      obtain ⟨y, h3, e3, w⟩ := (w.1 rfl).of
      obtain ⟨z, h4, e4, w⟩ := w.of
      obtain ⟨c, e5, w⟩ := w
      simp only [e3, e4, e5]
      exact w_cdict I hs step fin xs _ _ w
    | false => exact w_cdict I hs step fin xs _ _ (w.2 rfl)
theorem sif_t {A B : Prop} (a : A) : (true = true → A) ∧ (true = false → B) := ⟨fun _ => a, fun z => by cases z⟩
theorem sif_f {A B : Prop} (b : B) : (false = true → A) ∧ (false = false → B) := ⟨fun z => (by cases z), fun _ => b⟩
theorem eq_int {a b : Int} {h : Hh} : oEqC (.int a) (.int b) h = some (.bl (decide (a = b))) := by
  have e : eqD h (.int a) (.int b) = some (decide (a = b)) := by
    show (if (PyData.int a).canLay0 && (PyData.int b).canLay0 then some ((PyData.int a).eqv (PyData.int b)) else none) = _
    simp only [PyData.canLay0, Bool.and_self, if_true, PyData.eqv]
    rw [Bool.eq_iff_iff.mpr (show (a == b) = true ↔ decide (a = b) = true by simp)]
  unfold oEqC
  rw [e]
theorem mod_int {i j : Int} {h : Hh} (hj : 0 < j) : oMod (.int i) (.int j) h = some (.int (i % j)) := by simp [oMod, hj]
section
variable {de : Env'} {i j k l : Nat} {a b c d : D}
theorem gt2 : gT 2 (gsCons (gN i) (gsCons (gN j) gsNil)) (.tup [a, b]) de h = some ((de.set i (some a)).set j (some b), h) := rfl
theorem gt3 : gT 3 (gsCons (gN i) (gsCons (gN j) (gsCons (gN k) gsNil))) (.tup [a, b, c]) de h = some (((de.set i (some a)).set j (some b)).set k (some c), h) := rfl
theorem gt4 : gT 4 (gsCons (gN i) (gsCons (gN j) (gsCons (gN k) (gsCons (gN l) gsNil)))) (.tup [a, b, c, d]) de h = some ((((de.set i (some a)).set j (some b)).set k (some c)).set l (some d), h) := rfl
end
section
variable {n : Nat} {sub : Nat → Nat → Bool}
theorem isi_int {i : Int} : bIsi n sub [.int i, .ty "int"] h = some (.bl true, h) := rfl
theorem isi_bool {i : Int} : bIsi n sub [.int i, .ty "bool"] h = some (.bl false, h) := rfl
theorem isi_str {s : Str} : bIsi n sub [.str s, .ty "str"] h = some (.bl true, h) := rfl
theorem isi_tup {xs : List D} : bIsi n sub [.tup xs, .ty "tuple"] h = some (.bl true, h) := rfl
theorem isi_lt {xs : List D} : bIsi n sub [.lst xs, .tup [.ty "list", .ty "tuple"]] h = some (.bl true, h) := rfl
end
theorem pow30 {h : Hh} : oPow (.int 10) (.int 30) h = some (.int (10 ^ 30)) := by
  show (if (0 : Int) ≤ 30 ∧ (30 : Int) ≤ 1000000 ∧ (10 : Int).natAbs < 2 ^ 64 then some (D.int (10 ^ (30 : Int).toNat)) else none) = _
  rw [if_pos (by decide)]
  rfl
theorem eq_mpr_sif {A B : Prop} {p : Bool} (hp : p = true) (a : A) : (p = true → A) ∧ (p = false → B) := ⟨fun _ => a, fun z => by rw [hp] at z; cases z⟩
theorem eq_mpr_sif' {A B : Prop} {p : Bool} (hp : p = false) (b : B) : (p = true → A) ∧ (p = false → B) := ⟨fun z => (by rw [hp] at z; cases z), fun _ => b⟩
end
end DL

set_option maxHeartbeats 1000000
/-! repr of lists, tuples, dicts where no other repr is under way; a law of which that is known. -/
namespace DL
open PySem PySem.Spec PyProof.Rows L2
/-! ### reading -/
def kP : Key → PyData
  | .inl i => .int i
  | .inr x => .str x
def rdM (ks : List D) (o : Option (List PyData)) : Option PyData := match keysOf ks, o with
  | some kk, some ps => if kk.length = ps.length then some (.dict ((kk.map kP).zip ps)) else none
  | _, _ => none
/-- what a value reads as; b: lists are read, and dicts are not (otherwise it is the other way round) -/
def rdD (b : Bool) (h : Hh) : Nat → D → Option PyData
  | 0, _ => none
  | n + 1, d => match d with
    | .non => some .none
    | .bl c => some (.bool c)
    | .int i => some (.int i)
    | .str x => some (.str x)
    | .tup xs => (mapO (rdD b h n) xs).map .tuple
    | .lst xs => if b = true then (mapO (rdD b h n) xs).map .list else none
    | .dct false ks xs => if b = true then none else rdM ks (mapO (rdD b h n) xs)
    | .ref i => match h[i]? with
      | some (.lst xs) => if b = true then (mapO (rdD b h n) xs).map .list else none
      | some (.dct false kvs) => if b = true then none else rdM (kvs.map (·.1)) (mapO (rdD b h n) (kvs.map (·.2)))
      | _ => none
    | _ => none
section
variable {g : G} {X : Cx} {W : WX} {pins : List (Addr × Obj)} {sg : St} {H : Hp} {h : Hh} {rho : Rho} {s : Shared} {b : Bool}
def Rdd (s : Shared) (b : Bool) (n : Nat) (u : Value) (pd : PyData) : Prop := ∃ as, Reads s.heap u pd as ∧ pd.depth ≤ n ∧ (b = true → pd.hasDict = false) ∧ (b = false → sysModules ∉ as)
def RdAll (s : Shared) (b : Bool) (n : Nat) (us : List Value) (ps : List PyData) : Prop := ∃ as, ReadsAll s.heap us ps as ∧ PyData.depthAll ps ≤ n ∧ (b = true → PyData.hasDictAll ps = false) ∧ (b = false → sysModules ∉ as)
theorem rd_all {n : Nat} {f : D → Option PyData} (ih : ∀ d pd, f d = some pd → ∀ v u, Rp g rho H d v → RelV v u → Rdd s b n u pd) :
    ∀ (xs : List D) (ps : List PyData), mapO f xs = some ps → ∀ vs us, RpL g rho H xs vs → Vals vs us → RdAll s b n us ps
  | [], ps, e, vs, us, r, q => by
    have : ps = [] := by simpa [mapO] using e.symm
    subst this
    unfold RpL at r
    subst r
    cases q
    exact ⟨[], .nil, by simp [PyData.depthAll], fun _ => by simp [PyData.hasDictAll], fun _ => by simp⟩
  | x :: xs, ps, e, vs, us, r, q => by
    obtain ⟨y, ys, rfl, e1, e2⟩ := mapO_cons e
    obtain ⟨v, vr, rfl, r1, r2⟩ := r.inv
    cases q with
    | cons q1 q2 =>
      obtain ⟨as, a1, a2, a3, a4⟩ := ih x y e1 _ _ r1 q1
      obtain ⟨bs, b1, b2, b3, b4⟩ := rd_all ih xs ys e2 _ _ r2 q2
      refine ⟨as ++ bs, .cons a1 b1, ?_, fun hb => ?_, fun hb => ?_⟩
      · simp only [PyData.depthAll]; omega
      · simp only [PyData.hasDictAll, a3 hb, b3 hb, Bool.or_false]
      · intro hm
        rcases List.mem_append.mp hm with hm | hm
        · exact a4 hb hm
        · exact b4 hb hm
theorem rd_keys {P : Program} {w : World} {hp : Heap} : ∀ (kk : List Key) (vs : List V) (l : List (Key × Value)) (es : List DictEntry), kk.length = vs.length → KV (kk.zip vs) l → Pairs (mixKind P w) es l →
    ReadsAll hp (es.map (·.key)) (kk.map kP) [] ∧ Vals vs (es.map (·.val))
  | [], [], l, es, _, a, c => by
    cases a
    cases c
    exact ⟨.nil, .nil⟩
  | k :: kk, v :: vs, l, es, e, a, c => by
    cases a with
    | cons a1 a2 =>
      cases c with
      | cons c1 c2 c3 =>
        obtain ⟨i1, i2⟩ := rd_keys (P := P) (w := w) (hp := hp) kk vs _ _ (by simpa using e) a2 c3
        refine ⟨?_, .cons ?_ i2⟩
        · rw [← a1.1] at c1
          have c1' : keyIs k _ = true := c1
          rcases keyIs_shape c1' with ⟨i, t, rfl, e2⟩ | ⟨x, t, rfl, e2⟩
          · rw [List.map_cons, e2]
            exact ReadsAll.cons (as := []) (bs := []) (Reads.int i t) i1
          · rw [List.map_cons, e2]
            exact ReadsAll.cons (as := []) (bs := []) (Reads.str x t) i1
        · exact (show RelV v _ from by rw [← c2] at a1; exact a1.2)
theorem depthKv_le {n : Nat} : ∀ (kk : List Key) (ps : List PyData), PyData.depthAll ps ≤ n → PyData.depthKv ((kk.map kP).zip ps) ≤ n
  | [], ps, _ => by simp [PyData.depthKv]
  | k :: kk, [], _ => by simp [PyData.depthKv]
  | k :: kk, p :: ps, e => by
    simp only [PyData.depthAll] at e
    have := depthKv_le (n := n) kk ps (by omega)
    have hk : (kP k).depth = 0 := by cases k <;> simp [kP, PyData.depth]
    simp only [List.map_cons, List.zip_cons_cons, PyData.depthKv, hk]
    omega
theorem rd_lst (I : Inv X pins sg H s) {a : Addr} {vs : List V} {n : Nat} {ps : List PyData} (e : H a = some (.lst vs)) (q : ∀ us, Vals vs us → RdAll s true n us ps) : Rdd s true (n + 1) (.ref a) (.list ps) := by
  obtain ⟨_, its, m, hv, hg⟩ := I.hok a _ e
  obtain ⟨as, r, d, hd, _⟩ := q its hv
  refine ⟨_, .list hg rfl rfl (by simpa using r), by simp only [PyData.depth]; omega, fun _ => by simp only [PyData.hasDict]; exact hd rfl, fun z => by cases z⟩
theorem rd_tup (I : Inv X pins sg H s) {a : Addr} {vs : List V} {n : Nat} {ps : List PyData} (e : H a = some (.tup vs)) (q : ∀ us, Vals vs us → RdAll s b n us ps) : Rdd s b (n + 1) (.ref a) (.tuple ps) := by
  obtain ⟨_, its, hv, o, hg, hc, m, hd⟩ := I.hok a _ e
  obtain ⟨as, r, d, hdd, ns⟩ := q its hv
  exact ⟨as, .tuple hg hc hd (by simpa using r), by simp only [PyData.depth]; omega, fun z => by simp only [PyData.hasDict]; exact hdd z, ns⟩
theorem rd_dct (I : Inv X pins sg H s) {a : Addr} {vs : List V} {n : Nat} {ks : List D} {kk : List Key} {ps : List PyData} (e : H a = some (.dK (kk.zip vs))) (hl : kk.length = vs.length) (hp : kk.length = ps.length) (q : ∀ us, Vals vs us → RdAll s false n us ps) :
    Rdd s false (n + 1) (.ref a) (.dict ((kk.map kP).zip ps)) := by
  obtain ⟨_, hsys, l, hkv, o, es, ep, hg, hx, hd, _, hpr, _⟩ := I.hok a _ e
  obtain ⟨r1, r2⟩ := rd_keys (hp := s.heap) kk vs l _ hl hkv hpr
  obtain ⟨as, r, d, hdd, ns⟩ := q _ r2
  refine ⟨a :: [] ++ as, .dict hg hx.1 hd ?_ ?_, ?_, (fun z => by cases z), fun _ => ?_⟩
  · rw [List.map_fst_zip (by simp [hp])]
    exact r1
  · rw [List.map_snd_zip (by simp [hp])]
    exact r
  · have := depthKv_le kk ps d
    simp only [PyData.depth]
    omega
  · intro hm
    rcases List.mem_cons.mp hm with hm | hm
    · rw [hm] at hsys
      simp at hsys
    · exact ns rfl hm
theorem rdM_some {ks : List D} {o : Option (List PyData)} {pd : PyData} (e : rdM ks o = some pd) : ∃ kk ps, keysOf ks = some kk ∧ o = some ps ∧ kk.length = ps.length ∧ pd = .dict ((kk.map kP).zip ps) := by
  unfold rdM at e
  cases q1 : keysOf ks with
  | none => rw [q1] at e; cases e
  | some kk =>
    cases o with
    | none => rw [q1] at e; cases e
    | some ps =>
      rw [q1] at e
      simp only at e
      split at e
      · rename_i hl
        cases e
        exact ⟨kk, ps, rfl, rfl, hl, rfl⟩
      · cases e
theorem rd_ok (I : Inv X pins sg H s) (S : Sim g rho h H) : ∀ (n : Nat) (d : D) (pd : PyData), rdD b h n d = some pd → ∀ v u, Rp g rho H d v → RelV v u → Rdd s b n u pd
  | 0, d, pd, e, v, u, r, q => by cases e
  | n + 1, d, pd, e, v, u, r, q => by
    have ih := rd_all (rd_ok I S n)
    unfold rdD at e
    cases d with
    | non =>
      cases e
      unfold Rp at r
      subst r
      cases q
      exact ⟨[], .none, by simp [PyData.depth], fun _ => by simp [PyData.hasDict], fun _ => by simp⟩
    | bl c =>
      cases e
      unfold Rp at r
      subst r
      cases q
      exact ⟨[], .bool c, by simp [PyData.depth], fun _ => by simp [PyData.hasDict], fun _ => by simp⟩
    | int i =>
      cases e
      unfold Rp at r
      subst r
      obtain ⟨t, rfl⟩ := q
      exact ⟨[], .int i t, by simp [PyData.depth], fun _ => by simp [PyData.hasDict], fun _ => by simp⟩
    | str x =>
      cases e
      unfold Rp at r
      subst r
      obtain ⟨t, rfl⟩ := q
      exact ⟨[], .str x t, by simp [PyData.depth], fun _ => by simp [PyData.hasDict], fun _ => by simp⟩
    | tup xs =>
      obtain ⟨ps, e1, rfl⟩ := Option.map_eq_some_iff.mp e
      unfold Rp at r
      obtain ⟨a, vs, rfl, t, l⟩ := r
      cases q
      exact rd_tup I t.1 fun us hv => ih xs ps e1 vs us l hv
    | lst xs =>
      cases b with
      | false => cases e
      | true =>
      obtain ⟨ps, e1, rfl⟩ := Option.map_eq_some_iff.mp e
      unfold Rp at r
      obtain ⟨a, vs, rfl, t, l⟩ := r
      cases q
      exact rd_lst I t.1 fun us hv => ih xs ps e1 vs us l hv
    | dct t ks xs =>
      cases t with
      | true => cases e
      | false =>
      cases b with
      | true => cases e
      | false =>
      obtain ⟨kk, ps, e1, e2, e3, rfl⟩ := rdM_some e
      unfold Rp at r
      obtain ⟨a, vs, rfl, ⟨o, t1, t2, t3, kk2, t4, rfl⟩, l⟩ := r
      cases q
      have : kk2 = kk := by rw [e1] at t4; exact (Option.some.inj t4).symm
      subst this
      exact rd_dct (ks := ks) I t1 (by rw [← allOf_len t4, t3]) e3 fun us hv => ih xs ps e2 vs us l hv
    | ref i =>
      cases q2 : h[i]? with
      | none => simp only [q2] at e; cases e
      | some o =>
        simp only [q2] at e
        cases o with
        | lst xs =>
          cases b with
          | false => cases e
          | true =>
          obtain ⟨ps, e1, rfl⟩ := Option.map_eq_some_iff.mp e
          obtain ⟨a, vs, h1, h2, h3⟩ := S.obj i _ q2
          unfold Rp at r
          have ev := r.2 a h1
          subst ev
          cases q
          exact rd_lst I h2 fun us hv => ih xs ps e1 vs us h3 hv
        | dct t kvs =>
          cases t with
          | true => cases e
          | false =>
          cases b with
          | true => cases e
          | false =>
          obtain ⟨kk, ps, e1, e2, e3, rfl⟩ := rdM_some e
          obtain ⟨a, vs, o, h1, h2, ⟨h3, kk2, h4, rfl⟩, h5⟩ := S.obj i _ q2
          unfold Rp at r
          have ev := r.2 a h1
          subst ev
          cases q
          have : kk2 = kk := by rw [e1] at h4; exact (Option.some.inj h4).symm
          subst this
          exact rd_dct (ks := kvs.map (·.1)) I h2 (by rw [← allOf_len h4, h3]) e3 fun us hv => ih _ ps e2 vs us h5 hv
        | _ => cases e
    | _ => cases e
end
/-! ### repr -/
/-- short enough to be shown -/
def shOk (pd : PyData) : Bool := pd.showable && pd.leavesShort 2000 && decide (pd.bulk ≤ 8000)
theorem shOk_len {pd : PyData} (e : shOk pd = true) : pd.shown.length ≤ sizeLine := by
  unfold shOk at e
  simp only [Bool.and_eq_true, decide_eq_true_eq] at e
  have h := PyData.shown_le_bulk 2000 (by omega) pd e.1.2
  have : (2000 + 2) * pd.bulk ≤ (2000 + 2) * 8000 := Nat.mul_le_mul_left _ e.2
  rw [sizeLine_eq]
  omega
def isBox : D → Bool
  | .tup _ => true
  | .lst _ => true
  | .dct _ _ _ => true
  | .ref _ => true
  | _ => false
def bReprA : FB := fun ds h => match ds with
  | [d] => match rdD true h 12 d, rdD false h 12 d with
    | some pd, _ => if shOk pd = true then some (.str pd.shown, h) else none
    | none, some pd => if shOk pd = true then some (.str pd.shown, h) else none
    | none, none => none
  | _ => none
section
variable {g : G} {X : Cx} {W : WX}
theorem bReprA_ok (hr : Room 0 X.A) (hg : X.A.guards = some []) : CalD g X (.builtin "repr") bReprA := by
  intro pins s sg H vs us Q I rv hh
  obtain ⟨rho, h, ds, d', h', S, r, eq, A⟩ := hh
  unfold bReprA at eq
  split at eq
  · rename_i d
    obtain ⟨v, w, rfl, r1, r2⟩ := r.inv
    rw [r2.inv0] at rv
    cases rv with
    | cons q0 q1 =>
    rename_i u _
    cases q1
    have key : ∀ (b : Bool) (pd : PyData), rdD b h 12 d = some pd → shOk pd = true → (D.str pd.shown = d' ∧ h = h') → wpAny (model X.prog X.w) X.A (call (.builtin "repr") [u]) (EP X pins sg Q) X.xe s := by
      intro b pd e1 e2 e3
      obtain ⟨rfl, rfl⟩ := e3
      obtain ⟨as, R, dp, hd, ns⟩ := rd_ok (s := s) I S 12 d pd e1 v u r1 q0
      have sz := shOk_len e2
      have done : ∀ (h2 : Heap) (t tk : Tok), (∀ b o, s.heap.get? b = some o → h2.get? b = some o) → EP X pins sg Q (.str pd.shown t) { s with heap := h2, toks := tk } :=
        fun h2 t tk kp => ⟨.str pd.shown, H, I.kept kp, ⟨t, rfl⟩, A rho H _ S (Ext.refl _ _) (by unfold Rp; rfl)⟩
      have hs : pd.showable = true := by
        unfold shOk at e2
        simp only [Bool.and_eq_true] at e2
        exact e2.1.1
      have hsm : pd.hasDict = true → sysModules ∉ as := fun z => by
        cases b with
        | true => rw [hd rfl] at z; cases z
        | false => exact ns rfl
      have hu := hr.un
      cases R with
      | none => exact PySem.P.repr_of_none (by simpa [PyData.shown] using done s.heap _ _ fun _ _ e => e)
      | bool c => exact PySem.P.repr_of_bool (by simpa [PyData.shown] using done s.heap _ _ fun _ _ e => e)
      | int i t =>
        have : i.natAbs.log2 < 1920 := by simpa [PyData.showable] using hs
        exact PySem.P.repr_of_int this (by simpa [PyData.shown] using done s.heap _ _ fun _ _ e => e)
      | str x t => exact PySem.P.repr_of_str (by simpa [PyData.shown] using done s.heap _ _ fun _ _ e => e) (by simpa [PyData.shown] using sz)
      | list a1 a2 a3 a4 => exact repr_of_reads' (h₀ := s.heap) (.list a1 a2 a3 a4) hs hsm hg (by omega) (fun _ _ e => e) (fun h2 t tk kp => done h2 t tk kp) sz
      | tuple a1 a2 a3 a4 => exact repr_of_reads' (h₀ := s.heap) (.tuple a1 a2 a3 a4) hs hsm hg (by omega) (fun _ _ e => e) (fun h2 t tk kp => done h2 t tk kp) sz
      | dict a1 a2 a3 a4 a5 => exact repr_of_reads' (h₀ := s.heap) (.dict a1 a2 a3 a4 a5) hs hsm hg (by omega) (fun _ _ e => e) (fun h2 t tk kp => done h2 t tk kp) sz
    cases q1 : rdD true h 12 d with
    | some pd =>
      simp only [q1] at eq
      split at eq
      · rename_i z
        cases eq
        exact key true pd q1 z ⟨rfl, rfl⟩
      · cases eq
    | none =>
      cases q2 : rdD false h 12 d with
      | some pd =>
        simp only [q1, q2] at eq
        split at eq
        · rename_i z
          cases eq
          exact key false pd q2 z ⟨rfl, rfl⟩
        · cases eq
      | none => simp only [q1, q2] at eq; cases eq
  · cases eq
/-! ### texts compared, of any length and signs -/
def oEqS (x y : D) (h : Hh) : Option D := match x, y with
  | .str a, .str b => some (.bl (a == b))
  | x, y => oEqC x y h
def oNeS (x y : D) (h : Hh) : Option D := match x, y with
  | .str a, .str b => some (.bl (a != b))
  | x, y => oNeC x y h
theorem oEqS_ok (cx : Cok g X W) : OpD g X (compareOp .Eq) oEqS := by
  intro pins s sg H x y v u Q I rx ry hh
  obtain ⟨rho, h, d1, d2, d, S, r1, r2, eq, A⟩ := hh
  unfold oEqS at eq
  split at eq
  · cases eq
    have e1 := r1.str_
    have e2 := r2.str_
    subst e1
    subst e2
    obtain ⟨t1, rfl⟩ := rx
    obtain ⟨t2, rfl⟩ := ry
    exact PyProof.Rows.eq_str ⟨.bl _, H, I, rfl, A rho H _ S (Ext.refl _ _) Rp.bl'⟩
  · exact oEqC_ok cx pins s sg H x y v u Q I rx ry ⟨rho, h, d1, d2, d, S, r1, r2, eq, A⟩
theorem oNeS_ok (cx : Cok g X W) : OpD g X (compareOp .NotEq) oNeS := by
  intro pins s sg H x y v u Q I rx ry hh
  obtain ⟨rho, h, d1, d2, d, S, r1, r2, eq, A⟩ := hh
  unfold oNeS at eq
  split at eq
  · cases eq
    have e1 := r1.str_
    have e2 := r2.str_
    subst e1
    subst e2
    obtain ⟨t1, rfl⟩ := rx
    obtain ⟨t2, rfl⟩ := ry
    exact PyProof.Rows.ne_str ⟨.bl _, H, I, rfl, A rho H _ S (Ext.refl _ _) Rp.bl'⟩
  · exact oNeC_ok cx pins s sg H x y v u Q I rx ry ⟨rho, h, d1, d2, d, S, r1, r2, eq, A⟩
end
end DL

set_option maxHeartbeats 2000000
/-! A law's own def where it is known that no repr is under way: its promise, its call. -/
namespace DL
open PySem PySem.Spec PyProof.Rows L2
/-- the law's promise, at the heap behind the top -/
theorem law_callG {P : Program} {w : World} {K : PySem.W.Frag} {mg mb : Str → Option Value} {CX : CXT} {k : Nat} {fa a : Addr} {fd : FuncData} {x : Str} {sp : Sp} {s₁ : Shared} {vs : List Value} {ns : List Int}
    (KX : K.In s₁.heap) (hns : s₁.heap.Ns mainGlobals mg) (hb : s₁.heap.Ns builtinsNs mb) (hbb : ∀ x : Str, x ≠ "__name__" → mb x = bootBuiltins x) (hlim : s₁.heap.NoLimit) (hg : s₁.gens = #[])
    (ha : s₁.heap.get? a = some { cls := .type "list", data := .seq vs.toArray }) (hi : IntsAre vs ns) (hl : ns.length ≤ sizeLine) (hr : Room k callerA)
    (F : ∀ base : Heap, K.In base → base.Ns mainGlobals mg → FnOkG P w K mg base CX k fa fd [x] sp) (hbind : ∀ (s : Shared) (u : Value), BindsTo s fd ⟨[u], []⟩ [(x, u)])
    (hsp : ∀ H : Hp, Only H → SqL K H a (ns.map V.int) → sp [.ref a] H (fun v _ => v = .bl true) fun _ _ _ => False)
    (hCX : ∀ H e s', CX [] H s₁ (fun _ _ _ => False) e s' → False) :
    codeAny (model P w) callerA (.call (.ref fa) ⟨[.ref a], []⟩) (fun r s' => r = .ok (.ret (.bool true)) ∧ OldK s₁.heap s'.heap ∧ s'.os = s₁.os ∧ AllBare s'.gens) s₁ := by
  have rv := vals_ints hi
  have lenV := hi.length
  have core : ∀ H : Hp, Only H → SqL K H a (ns.map V.int) → HOk P w H s₁.heap → (∀ b, H b ≠ none → b = a) → (H a ≠ none → K.lookup a = none) →
      codeAny (model P w) callerA (.call (.ref fa) ⟨[.ref a], []⟩) (fun r s' => r = .ok (.ret (.bool true)) ∧ OldK s₁.heap s'.heap ∧ s'.os = s₁.os ∧ AllBare s'.gens) s₁ := by
    intro H hO hS hok hA hK
    have base_of : ∀ {b : Addr} {o : Obj}, s₁.heap.get? b = some o → H b = none → (hidT s₁.heap H).get? b = some o := fun e n => hidT_get e n
    have noA : ∀ {b : Addr} {o : Obj} {es : Array DictEntry} {ep : Nat}, s₁.heap.get? b = some o → o.data = .dict es ep → H b = none := fun {b o es ep} e d => by
      cases q : H b with
      | none => rfl
      | some u =>
        have e' : b = a := hA b (by rw [q]; simp)
        subst e'
        rw [ha] at e; cases e
        have d' : Data.seq vs.toArray _ = Data.dict es ep := d
        cases d'
    have nsK : ∀ {b : Addr} {m : Str → Option Value}, s₁.heap.Ns b m → (hidT s₁.heap H).Ns b m := fun {b m} ⟨o, es, ep, e, d, r⟩ => ⟨o, es, ep, base_of e (noA e d), d, r⟩
    have hKb : K.In (hidT s₁.heap H) := fun b o e => base_of (KX b o e) (by
      cases q : H b with
      | none => rfl
      | some u =>
        have e' : b = a := hA b (by rw [q]; simp)
        subst e'
        rw [hK (by rw [q]; simp)] at e; cases e)
    have hM : Mod K mg (hidT s₁.heap H) := ⟨hKb, nsK hns, ⟨mb, nsK hb, hbb⟩, let ⟨mc, h1, h2⟩ := hlim; ⟨mc, nsK h1, h2⟩⟩
    have e0 : Env0 P w K mg (hidT s₁.heap H) callerA [] s₁ H := ⟨rfl, hM, fun b o e => of_hidT e, Nat.le_of_eq (hidT_size _ _), trivial, fun b hb => absurd (show b ∈ ([] : List Addr) from hb) (by simp), hok, .of_eq hg⟩
    refine codeAny_mono ((F _ hKb (nsK hns)).run callerA [] s₁ H ⟨[.ref a], []⟩ [.ref a] [.ref a] _ _ hr rfl e0 (hbind s₁ (.ref a)) (.cons rfl .nil) (hsp H hO hS)) fun r s' h => ?_
    cases r with
    | error e => exact (hCX H e s' h).elim
    | ok fl =>
      cases fl with
      | next => exact False.elim h
      | brk => exact False.elim h
      | cont => exact False.elim h
      | ret u =>
        obtain ⟨v, H', os, bare, un, hok', r', q⟩ := h
        have q' : v = .bl true := q
        subst q'
        obtain rfl : u = Value.bool true := r'
        refine ⟨rfl, OldK.of_keep fun b o e => ?_, os, bare⟩
        cases q : H b with
        | none => exact un.keep b o e q (by intro z; exact absurd (show b ∈ ([] : List Addr) from z) (by simp)) (by simp)
        | some u =>
          rcases hO b with z | ⟨ob, xs, z⟩
          · rw [q] at z; cases z
          · have z2 := un.frzs b ob _ z
            obtain ⟨e1, _⟩ := hok b _ z
            obtain ⟨e2, _⟩ := hok' b _ z2
            rw [e] at e1; cases e1
            exact e2
  cases hk : K.lookup a with
  | some o =>
    have e := KX a o hk
    rw [ha] at e
    cases e
    refine core (fun _ => none) (fun _ => .inl rfl) (.inr ⟨_, vs.toArray, _, hk, rfl, rfl, rfl, by rw [List.size_toArray, lenV]; exact hl, by simpa using rv⟩) (fun b u z => by have z' : (none : Option HO) = some u := z; cases z') (fun b z => absurd rfl z) fun z => absurd rfl z
  | none =>
    refine core (fun b => if b = a then some (.frz { cls := .type "list", data := .seq vs.toArray } (.lst (ns.map V.int))) else none) (fun b => ?_) (.inl (.inr ⟨{ cls := .type "list", data := .seq vs.toArray }, if_pos rfl⟩)) (fun b u z => ?_) (fun b z => ?_) fun _ => hk
    · by_cases hb : b = a
      · exact .inr ⟨_, _, if_pos hb⟩
      · exact .inl (if_neg hb)
    · by_cases hb : b = a
      · have z' := (if_pos hb).symm.trans z
        cases z'
        subst hb
        exact ⟨ha, by rw [List.length_map]; exact hl, vs, _, rv, ha⟩
      · have z' := (if_neg hb).symm.trans z
        cases z'
    · by_cases hb : b = a
      · exact hb
      · exact absurd (if_neg hb) z
theorem walk_ofG {l : PySem.W.OpenLaw} {n k : Nat} {q : Program} {loose : List Str} {XP : (Str → Option Value) → Heap → Prop} {YP : World → Heap → Prop} {d : DefRec} {x : Str}
    (hn : l.most = some n) (hn2 : n ≤ sizeLine) (hdf : d.params.defaults = []) (hr : Room k callerA)
    (F : ∀ (w : World) (mg : Str → Option Value) (fa : Addr) (h : Heap), YP w h → h.Ns mainGlobals mg → mg d.name = some (.ref fa) →
      ∃ (K : PySem.W.Frag) (fd : FuncData) (sp : Sp), K.In h ∧ (∀ (s : Shared) (u : Value), BindsTo s fd ⟨[u], []⟩ [(x, u)]) ∧
        (∀ (H : Hp) (a : Addr) (ns : List Int), ns.length ≤ n → Only H → SqL K H a (ns.map V.int) → sp [.ref a] H (fun v _ => v = .bl true) fun _ _ _ => False) ∧
        ∀ base : Heap, K.In base → base.Ns mainGlobals mg → FnOkG l.prog w K mg base (L2.CX l.prog w) k fa fd [x] sp) :
    PySem.W.WalkO q loose XP YP l.row.toRowW d [] (fun f vs => PySem.call f vs) := by
  refine Att.attach_call hn hdf fun w s₀ s₁ mg mb fa o pm cd doc a vs ns G Y ho hd hcd hmg hobj hints hlen hg => ?_
  obtain ⟨K, fd, sp, KX, hb, hsp, hF⟩ := F w mg fa _ Y G.T.g hmg
  refine law_callG KX G.T.g G.T.b G.T.builtins G.T.nolimit hg hobj hints (Nat.le_trans hlen hn2) hr hF hb (fun H hO hS => hsp H a ns hlen hO hS) fun H e s' h => ?_
  obtain ⟨_, _, _, _, _, _, _, _, _, _, _, _, z⟩ := h
  exact z
end DL

set_option maxHeartbeats 1000000
/-! dict(a list of pairs). -/
namespace DL
open PySem PySem.Spec PyProof.Rows L2
def pairOf : D → Option (D × D)
  | .tup [k, v] => some (k, v)
  | _ => none
/-- dict([(k, v), ..]), never written / an object -/
def bDictPZ : FB := fun ds h => match ds with
  | [d] => ((lstOf h d).bind fun xs => (mapO pairOf xs).bind fun ps => mergeP [] ps).map fun m => (.dct false (m.map (·.1)) (m.map (·.2)), h)
  | _ => none
def bDictPA : FB := fun ds h => match ds with
  | [d] => ((lstOf h d).bind fun xs => (mapO pairOf xs).bind fun ps => mergeP [] ps).map fun m => (.ref h.length, h ++ [.dct false m])
  | _ => none
section
variable {g : G} {X : Cx} {W : WX}
theorem prs_of {rho : Rho} {H : Hp} {K : PySem.W.Frag} : ∀ {xs : List D} {ps : List (D × D)} {vs : List V}, mapO pairOf xs = some ps → RpL g rho H xs vs →
    ∃ (as : List Addr) (vps : List (V × V)), vs = as.map V.ref ∧ RPs g rho H ps vps ∧ Paired (fun p (q : V × V) => SqT K H p [q.1, q.2]) as vps
  | [], ps, vs, e, r => by
    have : ps = [] := by simpa [mapO] using e.symm
    subst this
    unfold RpL at r
    subst r
    exact ⟨[], [], rfl, ⟨RpL.nil, RpL.nil⟩, .nil⟩
  | x :: xs, ps, vs, e, r => by
    obtain ⟨y, ys, rfl, e1, e2⟩ := mapO_cons e
    obtain ⟨v, vr, rfl, r1, r2⟩ := r.inv
    obtain ⟨as, vps, rfl, i1, i2⟩ := prs_of (K := K) e2 r2
    unfold pairOf at e1
    split at e1
    · rename_i k z
      cases e1
      unfold Rp at r1
      obtain ⟨a, ws, rfl, t, l⟩ := r1
      obtain ⟨a1, b1, c1, d1, l1⟩ := l.inv
      obtain ⟨a2, b2, c2, d2, l2⟩ := l1.inv
      subst c1
      subst c2
      have : b2 = [] := by unfold RpL at l2; exact l2
      subst this
      exact ⟨a :: as, (a1, a2) :: vps, rfl, ⟨RpL.cons d1 i1.1, RpL.cons d2 i1.2⟩, .cons (.inl (.inl t.1)) i2⟩
    · cases e1
theorem dictP_key {rho : Rho} {h : Hh} {H : Hp} {d : D} {v : V} {m : List (D × D)} {K : PySem.W.Frag} (S : Sim g rho h H) (r : Rp g rho H d v) (e : ((lstOf h d).bind fun xs => (mapO pairOf xs).bind fun ps => mergeP [] ps) = some m) :
    ∃ (a : Addr) (ps : List Addr) (kvs : List (Key × V)) (kk : List Key) (ws : List V), v = .ref a ∧ SqL K H a (ps.map V.ref) ∧ Paired (fun p (kv : Key × V) => SqT K H p [kV kv.1, kv.2]) ps kvs ∧
      keysOf (m.map (·.1)) = some kk ∧ RpL g rho H (m.map (·.2)) ws ∧ kk.zip ws = mergeK [] kvs := by
  obtain ⟨xs, e1, e2⟩ := Option.bind_eq_some_iff.mp e
  obtain ⟨ps, e3, e4⟩ := Option.bind_eq_some_iff.mp e2
  obtain ⟨a, vs, rfl, ha, l⟩ := lst_ok S r e1
  obtain ⟨as, vps, rfl, i1, i2⟩ := prs_of (K := K) e3 l
  obtain ⟨kvs, kk, ws, rfl, ql, q1, q2, q3⟩ := mergeP_ok e4 i1 (acc := []) (kk := []) (ws := []) rfl RpL.nil
  refine ⟨a, as, kvs, kk, ws, rfl, .inl (.inl ha), ?_, q1, q2, q3⟩
  clear q3 e4 i1 ha ql
  generalize hq : kvs.map (fun kv : Key × V => (kV kv.1, kv.2)) = vps at i2
  clear l
  induction i2 generalizing kvs with
  | nil =>
    have : kvs = [] := by simpa using hq
    subst this
    exact .nil
  | cons x _ ih =>
    cases kvs with
    | nil => cases hq
    | cons q kvs =>
      rw [List.map_cons] at hq
      injection hq with h1 h2
      subst h1
      exact .cons x (ih kvs h2)
theorem bDictPZ_ok (hc : X.calm = true) : CalD g X (.type "dict") bDictPZ := by
  intro pins s sg H vs us Q I rv hh
  obtain ⟨rho, h, ds, d, h', S, r, eq, A⟩ := hh
  unfold bDictPZ at eq
  split at eq
  · rename_i x
    obtain ⟨m, e1, e2⟩ := Option.map_eq_some_iff.mp eq
    cases e2
    obtain ⟨v, w, rfl, r1, r2⟩ := r.inv
    rw [r2.inv0] at rv
    obtain ⟨a, ps, kvs, kk, ws, rfl, q1, q2, q3, q4, q5⟩ := dictP_key (K := X.K) S r1 e1
    refine call_dictP hc pins s sg H _ us Q I rv ⟨a, ps, kvs, rfl, q1, q2, fun p hp => ?_⟩
    rw [← q5]
    refine A rho _ _ (S.fresh hp) (Ext.fresh hp) ?_
    unfold Rp
    exact ⟨p, ws, rfl, ⟨_, upd_same, S.off hp, by have := q4.length; simp at this ⊢; exact this, kk, q3, rfl⟩, q4.ext (Ext.fresh hp)⟩
  · cases eq
theorem bDictPA_ok (hc : X.calm = true) : CalD g X (.type "dict") bDictPA := by
  intro pins s sg H vs us Q I rv hh
  obtain ⟨rho, h, ds, d, h', S, r, eq, A⟩ := hh
  unfold bDictPA at eq
  split at eq
  · rename_i x
    obtain ⟨m, e1, e2⟩ := Option.map_eq_some_iff.mp eq
    cases e2
    obtain ⟨v, w, rfl, r1, r2⟩ := r.inv
    rw [r2.inv0] at rv
    obtain ⟨a, ps, kvs, kk, ws, rfl, q1, q2, q3, q4, q5⟩ := dictP_key (K := X.K) S r1 e1
    refine call_dictP hc pins s sg H _ us Q I rv ⟨a, ps, kvs, rfl, q1, q2, fun p hp => ?_⟩
    rw [← q5]
    obtain ⟨s1, s2, s3⟩ := new_dct (tt := false) (kvs := m) S hp ⟨ws, ⟨by have := q4.length; simp at this ⊢; exact this, kk, q3, rfl⟩, q4⟩
    exact A _ _ _ s1 s2 s3
  · cases eq
end
end DL

set_option maxHeartbeats 1000000
/-! Starred arguments; a class whose __init__ takes the rest; staticmethods. -/
namespace DL
open PySem PySem.Spec PyProof.Rows L2
/-- *e in an argument list -/
def dStar (fe : Env' → Hh → Rs D) (fs : Env' → Hh → Rs (List D)) : Env' → Hh → Rs (List D) := fun de h => (fe de h).bd fun d h1 => match seqOf h1 d with
  | some xs => (fs de h1).bd fun ys h2 => .ok (xs ++ ys) h2
  | none => .no
/-- a def that takes n values and the rest as a tuple -/
def starF (n : Nat) (F : Fn) : Fn := fun ds h => if n ≤ ds.length ∧ lim ds.length = true then F (ds.take n ++ [.tup (ds.drop n)]) h else .no
def spV (g : G) (n : Nat) (F : Fn) : Sp := fun vs H Q E => ∃ rho ds h, Sim g rho h H ∧ RpL g rho H ds vs ∧ Aft g rho H (Rp g) E (starF n F ds h) Q
section
variable {g : G} {X : Cx} {W : WX} {k n : Nat} {x m : Str} {p pos apos : Pos} {e o : Expr} {es : List Expr} {F : Fn} {fe fo : Env' → Hh → Rs D} {fs : Env' → Hh → Rs (List D)}
theorem da_star (he : DE g X W e fe) (hs : DA g X W es fs) (hst : starEach (.Starred e p :: es) X.env = (true, eval e X.env) :: starEach es X.env := by rfl) : DA g X W (.Starred e p :: es) (dStar fe fs) := ⟨fun cx =>
  PA.imp (StX.pa_star (he.pe cx) (hs.pa cx) hst) fun sg H Q ⟨rho, de, h, S, E, A⟩ => by
    refine okE.bd S E A fun rho1 H1 d v h1 S1 e1 E1 r1 A1 => ?_
    cases q : seqOf h1 d with
    | none => rw [q] at A1; exact False.elim A1
    | some xs =>
      rw [q] at A1
      obtain ⟨a, vs, rfl, t, l⟩ := seq_ok S1 r1 q
      refine ⟨a, vs, rfl, t.elim (fun t => .inr (.inl (.inl t))) (fun t => .inl (.inl (.inl t))), ?_⟩
      exact okL.bd S1 E1 A1 fun rho2 H2 ys ws h2 S2 e2 E2 r2 A3 => A3 rho2 H2 _ S2 (Ext.refl _ _) ((l.ext e2).app r2)⟩
/-- the rest is laid as a tuple -/
theorem spV_in {vs : List V} {H : Hp} {Q : VK} {E : XK} (q : spV g n F vs H Q E) : ∃ ws rest, vs = ws ++ rest ∧ ws.length = n ∧ rest.length ≤ sizeLine ∧ ∀ p, H p = none → spD g (n + 1) F (ws ++ [V.ref p]) (upd H p (.tup rest)) Q E := by
  obtain ⟨rho, ds, h, S, r, A⟩ := q
  unfold starF at A
  split at A
  · rename_i c
    have l := r.length
    refine ⟨vs.take n, vs.drop n, (List.take_append_drop n vs).symm, by rw [List.length_take]; omega, ?_, fun p hp => ?_⟩
    · have := lim_le c.2
      rw [List.length_drop]
      omega
    · have ex : Ext rho H rho (upd H p (.tup (vs.drop n))) := Ext.fresh hp
      refine ⟨by rw [List.length_append, List.length_take, List.length_singleton]; omega, rho, ds.take n ++ [.tup (ds.drop n)], h, S.fresh hp, ((r.take n).ext ex).app (RpL.cons ?_ RpL.nil), A.later ex⟩
      unfold Rp
      exact ⟨p, vs.drop n, rfl, ⟨upd_same, S.off hp⟩, (r.drop n).ext ex⟩
  · exact False.elim A
/-- a class that is made by its name, the rest of the values in a tuple -/
structure MkS (g : G) (P : Program) (w : World) (mg : Str → Option Value) (base : Heap) (k : Nat) (c : Nat) (x : Str) (n : Nat) (F : Fn) : Prop where
  ex : ∃ (f : Addr) (sp : Sp), FnRG P w g.K mg base (L2.CX P w) k f sp ∧ Mk g.K (g.ca c) f ∧ mg x = some (.ref (g.ca c)) ∧ ∀ vs H Q E, spV g n F vs H Q E → sp vs H Q E
def dMakeS (c n : Nat) (F : Fn) (fs : Env' → Hh → Rs (List D)) : Env' → Hh → Rs D := fun de h => (fs de h).bd fun ds h1 => made c (starF n F) ds h1
theorem made_keyS {c : Nat} {sp : Sp} (cx : Cok g X W) (co : ClsOk g c) (hsp : ∀ vs H Q E, spV g n F vs H Q E → sp vs H Q E) {sg : St} {H : Hp} {Q : VK} (h : okE g W (dMakeS c n F fs) sg H Q) : StX.tMakeR (g.ca c) sp (fun c d H' => ∀ sg, W c d sg H') (okL g W fs) sg H Q := by
  obtain ⟨rho, de, h, S, E, A⟩ := h
  refine okL.bd S E A fun rho1 H1 xs vs h1 S1 e1 E1 r1 A1 => ?_
  intro a dx ha hd hne
  obtain ⟨s2, e2⟩ := And.intro (S1.fresh (o := .own a) hd) (Ext.fresh (rho := rho1) (o := .own a) hd)
  have ha2 : (upd H1 dx (.own a)) a = none := by rw [upd_ne (fun z => hne z.symm)]; exact ha
  obtain ⟨s3, e3, r3⟩ := new_ins s2 (c := c) (dx := dx) ha2 co
  have ee := e2.trans e3
  unfold made at A1
  have r4 : RpL g (rho1.add a) _ (.ref h1.length :: xs) (.ref a :: vs) := RpL.cons r3 (r1.ext ee)
  refine hsp _ _ _ _ ⟨rho1.add a, .ref h1.length :: xs, _, s3, r4, ?_⟩
  have A2 := (A1.wu cx.wu).later ee
  refine A2.bd fun rho4 H4 v u h4 S4 e4 r5 A3 => ?_
  cases v with
  | non =>
    have : u = .non := by unfold Rp at r5; exact r5
    refine ⟨this, ?_⟩
    exact A3 rho4 H4 (.ref a) S4 (Ext.refl _ _) (Rp.ext e4 _ _ r3)
  | _ => exact False.elim A3
/-- C(e, .., *y) -/
theorem de_makeS {c : Nat} (A : MkS g X.prog X.w X.mg X.base k c x n F) (co : ClsOk g c) (hr : Room (k + 1) X.A) (ha : DA g X W (e :: es) fs) (hg : Gl X x := by rfl) (hdb : (x == ("__debug__" : Str)) = false := by decide)
    (he : starEach (e :: es) X.env = (false, eval e X.env) :: starEach es X.env := by rfl) (hst : (backTo pos (starEach es X.env)).any (·.1) = true := by rfl) :
    DE g X W (.Call (.Name x p) (e :: es) [] pos) (dMakeS c n F fs) := ⟨fun cx => by
  obtain ⟨f, sp, ok, hm, kp, hsp⟩ := A.ex
  rw [cx.K] at ok hm
  have hx := passes_call (E := fun c d H => ∀ sg, W c d sg H) cx.tk fun _ _ _ _ h => h _
  have pe : PE X (.Call (.Name x p) (e :: es) [] pos) (StX.tMakeR (g.ca c) sp (fun c d H' => ∀ sg, W c d sg H') (okL g W fs)) := by
    refine ⟨fun pins s sg H Q I h => ?_⟩
    refine wpAny_Call_Name_kw (ld_glob I hg kp ?_ hdb)
    refine PySem.W.callWith_S2 (h₀ := X.base) I.ok.mod.kin hm.kp (thn ((ha.pa cx).run pos pins s sg H _ I h) fun us s1 ⟨vs, H1, I1, r, q⟩ => ⟨I1.kIn, ?_⟩) he hst
    exact run_makeRG cx.gd hm ok hr hx I1 r q
  exact PE.imp pe fun sg H Q h => made_keyS cx co hsp h⟩
/-! ### o.m(..), o a class, m a staticmethod of it -/
structure StA (g : G) (P : Program) (w : World) (mg : Str → Option Value) (base : Heap) (k : Nat) (c : Nat) (m : Str) (F : Fn) : Prop where
  ex : ∃ (f q : Addr) (fd : FuncData) (ps : List Str) (mc : Value) (F' : Fn), F = lenI ps.length F' ∧ FnOkG P w g.K mg base (L2.CX P w) k f fd ps (spD g ps.length F') ∧ Binds g.K fd ps [] ∧ PySem.W.keepIn g.K (.ref f) = true ∧ ClX.CRead g.K (g.ca c) mc ∧
    PySem.W.findCls g.K (.ref (g.ca c)) mc m = some (.get (.builtin "staticmethod.__get__") (.ref q) .none (.ref (g.ca c))) ∧ ∃ rest, PySem.W.recIn g.K q "staticmethod" = some (.ref f :: rest)
def dStat (c : Nat) (F : Fn) (fo : Env' → Hh → Rs D) (fs : Env' → Hh → Rs (List D)) : Env' → Hh → Rs D := fun de h => (fo de h).bd fun d h1 => match d with
  | .cls c' => if c' = c then (fs de h1).bd fun ds h2 => F ds h2 else .no
  | _ => .no
theorem de_stat {pl : Sem Bool} {c : Nat} (A : StA g X.prog X.w X.mg X.base k c m F) (hr : Room k X.A) (ho : DE g X W o fo) (ha : DA g X W (e :: es) fs)
    (hst : starEach (e :: es) X.env = (false, eval e X.env) :: starEach es X.env := by rfl) (hpl : (backTo pos (starEach es X.env)).any (·.1) = false := by rfl)
    (ht : eval (.Call (.Attribute o m apos) (e :: es) [] pos) X.env = (do
      let ov ← eval o X.env
      standAt apos.atName
      let (f, first) ← holding [ov] (getMethod ov m pl)
      callWith pos f first (backTo pos (starEach (e :: es) X.env)) (backToKw pos (keywordEach [] X.env))) := by rfl) : DE g X W (.Call (.Attribute o m apos) (e :: es) [] pos) (dStat c F fo fs) := ⟨fun cx => by
  obtain ⟨f, q, fd, ps, mc, F', rfl, ok, b, kp, cr, hf, rest, hp⟩ := A.ex
  rw [cx.K] at ok b kp cr hf hp
  have pe : PE X (.Call (.Attribute o m apos) (e :: es) [] pos) (fun sg H Q => okE g W fo sg H fun x H1 => x = .ref (g.ca c) ∧ okL g W fs sg H1 fun vs H2 => spD g ps.length F' (vs ++ []) H2 Q (fun c d H => W c d sg H)) := by
    refine ⟨fun pins s sg H Q I h => ?_⟩
    refine PySem.W.methodCall_KW (pl := pl) (thn ((ho.pe cx).run pins s sg H _ I h) fun u s1 ⟨x, H1, I1, rx, ex, z⟩ => ?_) ht
    subst ex
    obtain rfl : u = Value.ref (g.ca c) := rx
    refine PySem.W.method_cls I1.kIn cr.ga ?_
    refine PySem.W.cls_bind I1.kIn cr.rd hf (wpAny_call (PySem.W.sm_get (s := { s1 with toks := s1.toks + 1 }) I1.kIn hp (PySem.W.handed_on rfl ?_)))
    refine PySem.W.callWith_K (h₀ := X.base) I1.ok.mod.kin kp (thn ((ha.pa cx).run pos pins { s1 with toks := s1.toks + 1 } sg H1 _ (I1.tok _) z) fun us s2 ⟨vs, H2, I2, r, q2⟩ => ⟨I2.kIn, ?_⟩) hst hpl
    exact run_fnG cx.gd ok hr b .nil (passAt cx.tk sg) I2 r q2
  refine PE.imp pe fun sg H Q ⟨rho, de, h, S, E, A⟩ => ?_
  refine okE.bd S E A fun rho1 H1 d v h1 S1 e1 E1 r1 A1 => ?_
  cases d with
  | cls c' =>
    have A2 : Aft g rho1 H1 (Rp g) (fun c d H' => W c d sg H') (if c' = c then (fs de h1).bd fun ds h2 => lenI ps.length F' ds h2 else .no) Q := A1
    by_cases z : c' = c
    · subst z
      rw [if_pos rfl] at A2
      unfold Rp at r1
      refine ⟨r1, ?_⟩
      refine okL.bd S1 E1 A2 fun rho2 H2 xs vs h2 S2 e2 E2 r2 A3 => ?_
      unfold lenI at A3
      split at A3
      · rename_i hl
        rw [List.append_nil]
        exact ⟨by rw [← r2.length]; exact hl, rho2, xs, h2, S2, r2, A3⟩
      · exact False.elim A3
    · rw [if_neg z] at A2
      exact False.elim A2
  | _ => exact False.elim A1⟩
end
/-! ### a def with a rest, by its body -/
section
variable {g : G} {P : Program} {w : World} {mg : Str → Option Value} {base : Heap}
theorem fnDS {x qual pv : Str} {params : Arguments} {body : List Stmt} {scope : Scope} {dvs : List V} {kws : List (Str × V)} {f : Addr} {fd : FuncData} {N ps : List Str} {k m : Nat} {kf : Env' → Hh → Sr} (F : FunD g.K x qual params body scope dvs kws f fd) (S : FnScope N (ps ++ [pv]) scope) (hbl : ∀ x : Str, bnames.contains x = true → mg x = none) (hm : N.length = ps.length + 1 + m)
    (hb : ∀ us rest : List Value, us.length = ps.length → bindArgs fd ⟨us ++ rest, []⟩ = (newTuple rest >>= fun t => pure (ps.zip us ++ [(pv, t)])))
    (hbody : ∀ (cdv : Value) (A : Around) (outer : List Env) (s : Shared) (H : Hp) (E : XK), Room k (A.deeper (envOfC qual scope s.heap.objs.size f cdv)) →
      DSs g (cxOf (L2.CX P w) P w g.K mg base N qual scope f cdv A outer s H E) (fun c d _ H' => E c d H') body kf) :
    ∃ sp, FnRG P w g.K mg base (L2.CX P w) (k + 1) f sp ∧ ∀ vs H Q E, spV g ps.length (runB m kf) vs H Q E → sp vs H Q E := by
  obtain ⟨oc, od, dV, kV, doc, pm, an, cdv, ct, osl, rfl, lk, hcd, _, _⟩ := F.ex
  refine ⟨_, fn_starG (sp := spD g (ps.length + 1) (runB m kf)) lk hcd S StX.cxUp hb fun A outer s H vs Q E hr hgd ⟨hl, rho, ds, h, Sm, r, Af⟩ => ?_, fun vs H Q E z => ?_⟩
  · exact ⟨_, (hbody cdv A outer s H E hr).pss (cok_fn S hbl hr hgd), rho, ds.map some ++ List.replicate m none, h, Sm, env_start r (by rw [hm, hl]; omega), AftS.fin (r := kf (ds.map some ++ List.replicate m none) h) Af⟩
  · obtain ⟨ws, rest, e1, e2, e3, e4⟩ := spV_in z
    exact ⟨ws, rest, e1, e2, e3, e4⟩
end
/-! ### junk cut -/
theorem nrL_take {m : Nat} : ∀ {ds : List D} (n : Nat), D.nrL m ds → D.nrL m (ds.take n) ∧ D.nrL m (ds.drop n)
  | ds, 0, h => ⟨by unfold D.nrL; trivial, h⟩
  | [], n + 1, h => ⟨by unfold D.nrL; trivial, by unfold D.nrL; trivial⟩
  | d :: ds, n + 1, h => by
    have h2 : D.nr m d ∧ D.nrL m ds := by unfold D.nrL at h; exact h
    obtain ⟨i1, i2⟩ := nrL_take n h2.2
    exact ⟨by unfold D.nrL; exact ⟨h2.1, i1⟩, i2⟩
theorem nrL_app {m : Nat} : ∀ {ds es : List D}, D.nrL m ds → D.nrL m es → D.nrL m (ds ++ es)
  | [], _, _, k => k
  | d :: ds, es, h, k => by
    have h2 : D.nr m d ∧ D.nrL m ds := by unfold D.nrL at h; exact h
    show D.nrL m (d :: (ds ++ es))
    unfold D.nrL
    exact ⟨h2.1, nrL_app h2.2 k⟩
theorem spV_gc {g : G} {n : Nat} {F F2 : Fn} (q : Says (n + 1) F F2) {vs : List V} {H : Hp} {Q : VK} {E : XK} (z : spV g n F2 vs H Q E) : spV g n F vs H Q E := by
  obtain ⟨rho, ds, h, S, r, A⟩ := z
  refine ⟨rho, ds, h, S, r, ?_⟩
  unfold starF at A ⊢
  by_cases c : n ≤ ds.length ∧ lim ds.length = true
  · rw [if_pos c] at A ⊢
    have nr := nrL_of ds vs r
    rw [S.len] at nr
    obtain ⟨n1, n2⟩ := nrL_take n nr
    exact A.gc S (q _ h (by rw [List.length_append, List.length_take, List.length_singleton]; omega) (nrL_app n1 (by unfold D.nrL; exact ⟨by unfold D.nr; exact n2, by unfold D.nrL; trivial⟩)))
  · rw [if_neg c] at A
    exact False.elim A
theorem MkS.mono {g : G} {P : Program} {w : World} {mg : Str → Option Value} {base : Heap} {j k c n : Nat} {x : Str} {F : Fn} (A : MkS g P w mg base j c x n F) (h : j ≤ k) : MkS g P w mg base k c x n F := by
  obtain ⟨f, sp, ok, r⟩ := A.ex
  exact ⟨f, sp, ok.mono h, r⟩
theorem StA.mono {g : G} {P : Program} {w : World} {mg : Str → Option Value} {base : Heap} {j k c : Nat} {m : Str} {F : Fn} (A : StA g P w mg base j c m F) (h : j ≤ k) : StA g P w mg base k c m F := by
  obtain ⟨f, q, fd, ps, mc, F', e, ok, r⟩ := A.ex
  exact ⟨f, q, fd, ps, mc, F', e, ok.mono h, r⟩
end DL

set_option maxHeartbeats 1000000
/-! enumerate over a tuple -/
namespace DL
open PySem PySem.Spec PyProof.Rows L2
open PySem.Sem (wp)
open AutoSeq1 (wpAny_loadPart')
theorem meets_enum_newT (l : Addr) (items : Array Value) :
    Meets (Builtin.«enumerate.__new__» ⟨[.type "enumerate", .ref l], []⟩) (fun _ R s => s.heap.IsTuple l items ∧
      R (.ok (.ret (.ref (s.heap.push { cls := .type "tuple_iterator", data := .fields #[.ref l, .int 0 0] }).objs.size)))
        { s with heap := (s.heap.push { cls := .type "tuple_iterator", data := .fields #[.ref l, .int 0 0] }).push { cls := .type "enumerate", data := .fields #[.none, .bool false, .ref s.heap.objs.size, rawInt 0, .none, .none] } }) :=
  .of_wp fun prog w A R s h => by
    obtain ⟨hp, g, d, tk, os⟩ := s; obtain ⟨h1, h⟩ := h
    have hsub := sub_enumerate
    have q1 : ∀ {A' : Around} {E : Value → Shared → Prop} {Q : Value → Shared → Prop}, Q (.ref hp.objs.size) ⟨hp.push { cls := .type "tuple_iterator", data := .fields #[.ref l, .int 0 0] }, g, d, tk, os⟩ → wpAny (model prog w) A' (pyIter (.ref l)) Q E ⟨hp, g, d, tk, os⟩ :=
      fun q => wpAny_pyIter_tuple h1 q
    wp_walk using q1
    refine wpAny_stack_any fun st => wpAny_pure ?_
    split
    · rename_i c _ _ _ _ _
      cases (c == Value.type "enumerate")
      · wp_walk using q1
        exact ⟨_, rfl, h⟩
      · wp_walk using q1
        exact ⟨_, rfl, h⟩
    · wp_walk using q1
      exact ⟨_, rfl, h⟩
theorem call_enum_tup {prog : Program} {w : World} {A : Around} {E : Value → Shared → Prop} {s : Shared} {l : Addr} {items : Array Value} {Q : Value → Shared → Prop} (hL : s.heap.IsTuple l items)
    (h : ∀ h', IsEnum h' (s.heap.objs.size + 1) s.heap.objs.size 0 .none → h'.IsTupleIter s.heap.objs.size l 0 → h'.objs.size = s.heap.objs.size + 2 →
      (∀ b o, s.heap.get? b = some o → h'.get? b = some o) → Q (.ref (s.heap.objs.size + 1)) { s with heap := h' }) :
    wpAny (model prog w) A (call (.type "enumerate") [.ref l]) Q E s := by
  refine callType_new F.called_enumerate (by decide) (F.typeCall_enumerate_1 _) (F.newCall_enumerate_1 _) (fun obj => F.args_object_init_2 obj _) F.entry_enumerate_new
    (meets_enum_newT l items) ⟨hL, ?_⟩
  have hz : (s.heap.push { cls := .type "tuple_iterator", data := .fields #[.ref l, .int 0 0] }).objs.size = s.heap.objs.size + 1 := Heap.size_push ..
  show _ ∧ _
  rw [hz]
  have he : IsEnum ((s.heap.push { cls := .type "tuple_iterator", data := .fields #[.ref l, .int 0 0] }).push
      { cls := .type "enumerate", data := .fields #[.none, .bool false, .ref s.heap.objs.size, rawInt 0, .none, .none] }) (s.heap.objs.size + 1) s.heap.objs.size 0 .none := by
    have := Heap.get?_push_size (s.heap.push { cls := .type "tuple_iterator", data := .fields #[.ref l, .int 0 0] })
      (o := { cls := .type "enumerate", data := .fields #[.none, .bool false, .ref s.heap.objs.size, rawInt 0, .none, .none] }) rfl
    rw [hz] at this; exact this
  refine ⟨⟨_, he, rfl⟩, h _ he ⟨_, Heap.get?_push_of_some _ (Heap.get?_push_size _ rfl), rfl, rfl⟩ (by rw [Heap.size_push, hz]) fun b o x => Heap.get?_push_of_some _ (Heap.get?_push_of_some _ x)⟩
/-- the tuple at a, each item in a new pair -/
def IteT (K : PySem.W.Frag) (a : Addr) : It :=
  ⟨fun i H => ∃ (xs : List V) (x : V), SqT K H a xs ∧ xs[i]? = some x, fun i H v H' => ∃ T x, v = .ref T ∧ H T = none ∧ H' = upd H T (.tup [.int (i : Nat), x]) ∧ ∀ xs, SqT K H a xs → xs[i]? = some x, fun i H => ∃ xs : List V, SqT K H a xs ∧ xs.length ≤ i⟩
theorem turn_enumT {P : Program} {w : World} {K : PySem.W.Frag} {elts : List Expr} {kk : Nat} {tpos : Pos} (a e it : Addr) :
    Turn P w K (.Tuple elts kk tpos) (IteT K a) [e, it] e (fun i h => (∃ old, IsEnum h e it ((i : Nat) : Int) old) ∧ h.IsTupleIter it a i ∧ e ≠ it) where
  mem := by simp
  obj := fun i h st b hb => by
    obtain ⟨⟨old, he⟩, ⟨o, ho, hc, hd⟩, _⟩ := st
    have e' : b = e ∨ b = it := by simpa using hb
    rcases e' with z | z
    · rw [z]; exact ⟨_, he, fun v q => nomatch q⟩
    · rw [z]; exact ⟨o, ho, fun v q => by rw [hd] at q; cases q⟩
  keep := fun i h h' st k => let ⟨⟨old, he⟩, hi, hne⟩ := st; ⟨⟨old, k e (by simp) _ he⟩, hi.at fun o q => k it (by simp) o q, hne⟩
  item := by
    intro X hP hw hK hc i pins s σ H E I hf st hg
    subst hP hw hK
    obtain ⟨⟨old, he⟩, hit, hne⟩ := st
    obtain ⟨xs, x, hq, hx⟩ := hg
    obtain ⟨its, rv, p, hz⟩ := I.tuple hq
    have pt : s.heap.IsTuple a its.toArray := p
    obtain ⟨u, hu, ru⟩ := rv.get hx
    have hel : e < s.heap.objs.size := Heap.lt_size he
    have hil : it < s.heap.objs.size := by obtain ⟨_, q, _⟩ := hit; exact Heap.lt_size q
    have hea : a ≠ e := fun z => by
      subst z
      obtain ⟨o, ho, hc, _⟩ := pt
      rw [show s.heap.get? a = _ from he] at ho
      cases ho
      injection hc with hc
      exact absurd hc (by decide)
    have hia : a ≠ it := fun z => by
      subst z
      obtain ⟨o, ho, hc, _⟩ := pt
      obtain ⟨o2, ho2, hc2, _⟩ := hit
      rw [ho] at ho2
      cases ho2
      rw [hc] at hc2
      injection hc2 with hc2
      exact absurd hc2 (by decide)
    have hlt : i < its.toArray.size := by
      have := (List.getElem?_eq_some_iff.mp hu).1
      simpa using this
    refine wpAny_pyNext_enum_itemD (Draws.tuple (A := X.A.in1) (show X.A.in1.handled = none from I.ok.hd hc) it a hia its.toArray) he ⟨hit, pt⟩ hlt hne (by simp only [List.mem_cons, List.not_mem_nil, or_false, not_or]; exact ⟨hne, fun z => hea z.symm⟩) fun y h' tk hy ho hst' hT hsz hk => ?_
    have hyu : y = u := by
      have hu2 : its.toArray[i]? = some u := by simpa using hu
      rw [hu2] at hy
      exact (Option.some.inj hy).symm
    subst hyu
    refine ⟨_, rfl, wpAny_letOwnedTupleGo_enum (s := { s with heap := h', toks := tk + 1 }) ho fun h'' he' sb => ?_⟩
    have hT2 : h''.get? s.heap.objs.size = some { cls := .type "tuple", data := .seq #[.int i tk, y] } := (sb.2 _ (Nat.ne_of_gt hel)).trans hT
    have new : ObjOk X.prog X.w (upd H s.heap.objs.size (.tup [.int (i : Nat), x])) h'' s.heap.objs.size (.tup [.int (i : Nat), x]) :=
      ⟨by show 2 ≤ sizeLine; decide, [.int i tk, y], .cons ⟨_, rfl⟩ (.cons ru .nil), ⟨_, hT2, rfl, _, rfl⟩⟩
    have I1 : Inv X pins σ (upd H s.heap.objs.size (.tup [.int (i : Nat), x])) { s with heap := h'', toks := tk + 1 } :=
      I.turnedNew (ch := [e, it]) (fun b ob hb q => (sb.2 b (fun z => hb (by simp [z]))).trans (hk b ob (fun z => hb (by simp [z])) (fun z => hb (by simp [z])) q)) hf (Nat.le_refl _) new
    refine ⟨.ref s.heap.objs.size, _, I1, rfl, ⟨_, x, rfl, I.hok.fresh (Nat.le_refl _), rfl, fun ys hy => by rw [I.tuple_inj hy hq]; exact hx⟩, ⟨⟨y, ?_⟩, hst'.1.at fun o q => (sb.2 it (Ne.symm hne)).trans q, hne⟩, fun b hb => ?_⟩
    · have e1 : ((i + 1 : Nat) : Int) = (i : Int) + 1 := by omega
      rw [e1]; exact he'
    · have hb' : b < s.heap.objs.size := by
        have e' : b = e ∨ b = it := by simpa using hb
        rcases e' with z | z
        · rw [z]; exact hel
        · rw [z]; exact hil
      rw [upd_ne (Nat.ne_of_lt hb')]
      exact (hf b hb).1
  done := by
    intro X hP hw hK hc i pins s σ H E I hf st hg
    subst hP hw hK
    obtain ⟨⟨old, he⟩, hit, hne⟩ := st
    obtain ⟨xs, hq, hx⟩ := hg
    obtain ⟨its, rv, p, hz⟩ := I.tuple hq
    have pt : s.heap.IsTuple a its.toArray := p
    obtain ⟨f0, f1, f2, f3, f4, f5⟩ := hf it (by simp)
    have hl := rv.length
    have hx2 : its.toArray[i]? = none := by simp; omega
    unfold pyNext
    have hT : s.TypeIs (.ref e) "enumerate" := ⟨_, he, rfl⟩
    refine wpAny_bind (wpAny_attempt (wpAny_callSpecial?_slot (name := Str.ofString "__next__") hT F.slot_enumerate_next
      (wpAny_call_entry F.slot_enumerate_next hT F.entry_enumerate_next ?_ (F.args_enumerate_next_1 _))))
    show wpAny _ _ (field (.ref e) 2 >>= _) _ _ _
    refine wpAny_bind (wpAny_field he rfl (x := .ref it) rfl ?_)
    refine wpAny_bind (wpAny_nextOf_tuple_end (show X.A.in1.handled = none from I.ok.hd hc) hit pt hx2 fun h' x he' hx' => ?_)
    obtain ⟨o, ho, hc'⟩ := hx'
    refine wpAny_bind (wpAny_isInstance (T := "StopIteration") (b := true) ⟨o, ho, hc'⟩ isSubtype_stop ?_)
    exact wpAny_pure ⟨rfl, I.turned (t' := s.toks) (fun b o hb q => he' b o hb q) f0 f1 f3 f4 f5⟩
  self := fun A i s Q E st h => let ⟨⟨_, he⟩, _⟩ := st; wpAny_pyIter_enum he h
def iEnumTH (K : PySem.W.Frag) (ta : TA) : TI := fun σ H R => ta σ H fun vs H1 => ∃ a xs, vs = [.ref a] ∧ SqT K H1 a xs ∧ R (IteT K a) H1
theorem pi_enumT {X : Cx} {e : Expr} {ta : TA} {p pos tpos : Pos} {elts : List Expr} {kk : Nat} (hg : Gl X "enumerate") (hm : X.mg "enumerate" = none) (ha : PA X [e] ta) (hs : starEach [e] X.env = [(false, eval e X.env)] := by rfl) :
    PI X (.Tuple elts kk tpos) (.Call (.Name "enumerate" p) [e] [] pos) (iEnumTH X.K ta) := by
  refine ⟨fun pins s σ H R I h => ?_⟩
  refine Call_ (ld_blt I hg hm boot_enumerate (PyProof.Rows.callWith_type1 (thn (ha.run pos pins s σ H _ I h) fun us s1 ⟨vs, H1, I1, r1, q1⟩ => ?_) hs rfl))
  obtain ⟨a, xs, ex, hq, q⟩ := q1
  subst ex
  cases r1 with
  | cons r rr =>
    cases rr
    cases r
    obtain ⟨its, rv, p', hz⟩ := I1.tuple hq
    refine call_enum_tup (show s1.heap.IsTuple a its.toArray from p') fun h' he hit hsz hk => wpAny_pyIter_enum he ?_
    have I2 : Inv X pins σ H1 { s1 with heap := h' } := I1.kept (t' := s1.toks) hk
    refine ⟨s1.heap.objs.size + 1, [s1.heap.objs.size + 1, s1.heap.objs.size], _, _, H1, rfl, I2, turn_enumT a (s1.heap.objs.size + 1) s1.heap.objs.size, ⟨⟨.none, he⟩, hit, Nat.succ_ne_self _⟩, fun b hb => ?_, q⟩
    have e' : b = s1.heap.objs.size + 1 ∨ b = s1.heap.objs.size := by simpa using hb
    have hle : s1.heap.objs.size ≤ b := by
      rcases e' with z | z
      · rw [z]; exact Nat.le_add_right _ _
      · rw [z]; exact Nat.le_refl _
    exact I1.fpOk hle (I1.hok.fresh hle)
def iEnumT (fs : Env' → Hh → Rs (List D)) : Env' → Hh → Rs Src := fun de h => (fs de h).bd fun ds h1 => match ds with
  | [.tup xs] => if lim xs.length then .ok ⟨none, enumD xs⟩ h1 else .no
  | _ => .no
theorem di_enumT {g : G} {X : Cx} {W : WX} {e : Expr} {p pos : Pos} {fs : Env' → Hh → Rs (List D)} {elts : List Expr} {kk : Nat} {tpos : Pos} (ha : DA g X W [e] fs) (hg : Gl X "enumerate" := by rfl) (hs : starEach [e] X.env = [(false, eval e X.env)] := by rfl) : DI g X W (.Tuple elts kk tpos) (.Call (.Name "enumerate" p) [e] [] pos) (iEnumT fs) := ⟨fun cx => PI.imp (pi_enumT hg (cx.bl "enumerate" (by decide +kernel)) (ha.pa cx) hs) fun sg H R ⟨rho, de, h, S, E, A⟩ => by
  refine okL.bd S E A fun rho1 H1 ds vs h1 S1 e1 E1 r1 A1 => ?_
  split at A1
  · rename_i xs
    split at A1
    · rename_i hz
      obtain ⟨v, w, rfl, k1, k2⟩ := r1.inv
      rw [k2.inv0]
      unfold Rp at k1
      obtain ⟨a, ws, rfl, t, l⟩ := k1
      refine ⟨a, ws, rfl, .inl (.inl t.1), A1 rho1 H1 _ S1 (Ext.refl _ _) ⟨by rw [enum_len]; exact lim_le hz, fun rho' h' H' S' e' _ => ?_⟩⟩
      have t' := t.ext e'
      have l' := l.ext e'
      refine ⟨fun i x hx => ?_, ⟨ws, .inl (.inl t'.1), by rw [enum_len, l.length]; exact Nat.le_refl _⟩⟩
      obtain ⟨y, hy, rfl⟩ := enum_get hx
      obtain ⟨v, hv, rv⟩ := l'.get hy
      refine ⟨⟨ws, v, .inl (.inl t'.1), hv⟩, fun u H2 ⟨T, z, eu, hT, e2, hz⟩ => ?_⟩
      subst eu e2
      have hu := hz ws (.inl (.inl t'.1))
      rw [hv] at hu
      cases hu
      exact new_tup' S' hT (RpL.cons Rp.int' (RpL.cons rv RpL.nil))
    · exact False.elim A1
  · exact False.elim A1⟩
theorem w_enumT {fs : Env' → Hh → Rs (List D)} {de : Env'} {h : Hh} {QS : Src → Hh → Prop} : WR (iEnumT fs de h) QS = WR (fs de h) fun ds h1 => ∃ xs, ds = [.tup xs] ∧ lim xs.length = true ∧ QS ⟨none, enumD xs⟩ h1 := by
  unfold iEnumT; rw [wr_bd]; congr; funext ds h1
  split
  · rename_i xs
    by_cases q : lim xs.length = true
    · simp only [q, if_true, wr_ok]
      exact propext ⟨fun n => ⟨xs, rfl, q, n⟩, fun ⟨_, e, _, n⟩ => by cases e; exact n⟩
    · simp only [q, wr_no]
      exact propext ⟨fun n => n.elim, fun ⟨_, e, z, _⟩ => by cases e; exact q z⟩
  · rename_i k
    exact propext ⟨fun n => n.elim, fun ⟨xs, e, _, _⟩ => k xs e⟩
/-! ### walks of starred arguments, own made objects, staticmethods -/
section
variable {F : Fn} {fe fo : Env' → Hh → Rs D} {fs : Env' → Hh → Rs (List D)} {de : Env'} {h : Hh} {Q : D → Hh → Prop} {QL : List D → Hh → Prop} {c n : Nat}
theorem w_star : WR (dStar fe fs de h) QL = WR (fe de h) fun d h1 => ∃ xs, seqOf h1 d = some xs ∧ WR (fs de h1) fun ys h2 => QL (xs ++ ys) h2 := by
  unfold dStar; rw [wr_bd]; congr; funext d h1
  cases q : seqOf h1 d with
  | none => exact propext ⟨fun n => n.elim, fun ⟨_, e, _⟩ => by cases e⟩
  | some xs =>
    simp only [wr_bd, wr_ok]
    exact propext ⟨fun n => ⟨xs, rfl, n⟩, fun ⟨_, e, n⟩ => by cases e; exact n⟩
theorem w_makeS : WR (dMakeS c n F fs de h) Q = WR (fs de h) fun ds h1 => (n ≤ ds.length + 1 ∧ lim (ds.length + 1) = true) ∧ WR (F ((D.ref h1.length :: ds).take n ++ [.tup ((D.ref h1.length :: ds).drop n)]) (h1 ++ [.ins c []])) fun v h2 => v = .non ∧ Q (.ref h1.length) h2 := by
  have e := w_make (c := c) (F := starF n F) (fs := fs) (de := de) (h := h) (Q := Q)
  have e0 : dMakeS c n F fs de h = dMake c (starF n F) fs de h := rfl
  rw [e0, e]
  congr; funext ds h1
  unfold starF
  rw [wr_ite]
  rfl
theorem w_stat : WR (dStat c F fo fs de h) Q = WR (fo de h) fun d h1 => d = .cls c ∧ WR (fs de h1) fun ds h2 => WR (F ds h2) Q := by
  unfold dStat; rw [wr_bd]; congr; funext d h1
  cases d with
  | cls c' =>
    show WR (if c' = c then (fs de h1).bd fun ds h2 => F ds h2 else .no) Q = _
    by_cases z : c' = c
    · subst z
      rw [if_pos rfl, wr_bd]
      exact propext ⟨fun n => ⟨rfl, n⟩, fun n => n.2⟩
    · rw [if_neg z]
      exact propext ⟨fun n => n.elim, fun n => z (by cases n.1; rfl)⟩
  | _ => exact propext ⟨fun n => n.elim, fun n => nomatch n.1⟩
end
end DL

set_option maxHeartbeats 1000000
/-! == and != of instances by a class's own __eq__ -/
namespace DL
open PySem PySem.Spec PyProof.Rows L2
open PySem.Sem (wp)
section
variable {prog : Program} {w : World} {A : Around} {E : Value → Shared → Prop} {s : Shared} {K : PySem.W.Frag} {x y C L f : Addr} {h₀ : Heap} {m : Str → Option Value} {ox : Obj} {od : Option Obj} {tb : Value}
theorem ifBound_ne {M : Model} {args : List Value} {Q : Option Value → Shared → Prop} (X : K.In s.heap) (I : PySem.W.InstAt s.heap x ox C od) (hs : PySem.W.findIn K (.ref C) "__ne__" = some (some (.builtin "object.__ne__")))
    (h : wpAny M A (call (.builtin "object.__ne__") (.ref x :: args)) (fun v => Q (some v)) E s) : wpAny M A (callSpecialIfBound? (.ref x) "__ne__" args) Q E s := by
  simp only [callSpecialIfBound?, bindSpecialIfBound?]
  refine wpAny_holding (wpAny_bind (wpAny_bind (wpAny_bind (I.type.here ((PySem.W.looks_findIn X hs).here ?_)))))
  refine wpAny_bind (wpAny_askSetting (wpAny_ite ?_))
  have fin : wpAny M A (call (.builtin "object.__ne__") ([.ref x] ++ args) >>= fun v => pure (some v)) Q E s := wpAny_bind (wpAny_mono h (fun v s' h' => wpAny_pure h') fun _ _ h' => h')
  have bd : PySem.W.Looks M s.heap (bindSpecial (.builtin "object.__ne__") (.ref x)) (.builtin "object.__ne__", [.ref x]) := PySem.W.Looks.of_pure (F.slot_object_ne.bind _)
  split
  · exact wpAny_bind (bd.here (wpAny_pure (by exact fin)))
  · exact wpAny_tryCatch (wpAny_bind (bd.here (wpAny_pure (by exact fin))))
theorem objNe_K (X : K.In s.heap) (I : PySem.W.InstAt s.heap x ox C od) (hs : PySem.W.findIn K (.ref C) "__eq__" = some (some (.ref f))) (hf : PySem.W.isFn K (.ref f) = true) (hu : A.units < cLine) {Q : Fin → Shared → Prop}
    (hcall : wpAny (model prog w) A (call (.ref f) [.ref x, .ref y]) (fun v s' => ∃ b, v = .bool b ∧ Q (.done (.ret (.bool (!b)))) s') E s) :
    wpAny (model prog w) A (Builtin.«object.__ne__» ⟨[.ref x, .ref y], []⟩) Q E s := by
  unfold Builtin.«object.__ne__»
  repeat (first
    | with_reducible refine wpAny_cRoomFor hu ?_
    | (refine wpAny_bind (m := callSpecialIfBound? (.ref x) (Str.ofString "__eq__") [.ref y])
        (PySem.W.ifBound_K X I hs hf (wpAny_mono hcall (fun r s' hr => by
          obtain ⟨b, rfl, hq⟩ := hr
          repeat (first | exact hq | exact wpAny_pure hq | exact wpAny_truthy_bool hq | (refine wpAny_bind (m := truthy (.bool _)) (wpAny_truthy_bool ?_)) | wp_step)) fun _ _ e => e)))
    | wp_step)
theorem cmp_ne_K {Q : Value → Shared → Prop} (hu : A.units + 1 < cLine) (Fh : PyProof.Rows.Fr h₀ L s.heap m) (X₀ : K.In h₀) (I : PySem.W.InstAt s.heap x ox C od) (hb : PySem.W.Looks (model prog w) s.heap (typeOf (.ref y)) tb) (hn : PySem.W.notFirst K C tb = true)
    (hne : PySem.W.findIn K (.ref C) "__ne__" = some (some (.builtin "object.__ne__"))) (hs : PySem.W.findIn K (.ref C) "__eq__" = some (some (.ref f))) (hf : PySem.W.isFn K (.ref f) = true) (hm : PySem.W.mroIn K C (.type "object") = some true)
    (h : wpAny (model prog w) A.in1 (call (.ref f) [.ref x, .ref y]) (fun v s' => ∃ b, v = .bool b ∧ Q (.bool (!b)) s') E s) : wpAny (model prog w) A (richCompare .NotEq (.ref x) (.ref y)) Q E s := by
  have X := X₀.keeps Fh.keep
  have hu0 : A.units < cLine := Nat.lt_of_succ_lt hu
  have sub : PySem.W.Looks (model prog w) s.heap (isInstance (.ref x) (.type "object")) true := I.type.andThen (PySem.W.looks_mroIn X hm)
  have one : wpAny (model prog w) A (tryCompare (.ref x) "__ne__" (.ref y)) (fun r s' => ∃ v, r = some v ∧ Q v s') E s := by
    unfold tryCompare
    refine wpAny_bind (ifBound_ne X I hne (wpAny_call (codeAny_call_builtin F.slot_object_ne.plain F.cmpEntry_ne (PySem.W.check_slot F.cmpKind_ne F.cmpSplit_ne sub (F.cmpArgs_ne _ _) (objNe_K (A := A.in1) X I hs hf hu (wpAny_mono h (fun v s' hv => ?_) fun _ _ e => e))))))
    obtain ⟨b, rfl, hq⟩ := hv
    first | exact ⟨b, rfl, wpAny_pure ⟨_, rfl, hq⟩⟩ | exact ⟨b, rfl, wpAny_pure (wpAny_pure ⟨_, rfl, hq⟩)⟩
  unfold richCompare
  simp only [oneThing_ref]
  refine wpAny_holding (wpAny_bind (wpAny_cRoomFor hu0 ?_))
  refine wpAny_bind (I.type.here (wpAny_bind (hb.here ?_)))
  split
  · rename_i q
    have e : PySem.W.subIn K tb (.ref C) = some false := by
      rcases Bool.or_eq_true_iff.mp hn with e | e
      · rw [beq_iff_eq.mp e] at q; simp at q
      · exact beq_iff_eq.mp e
    refine wpAny_bind ((PySem.W.looks_subIn X e).here ?_)
    simp only [Bool.false_eq_true, if_false]
    refine wpAny_bind (wpAny_mono one (fun r s' z => ?_) fun _ _ e => e)
    obtain ⟨v, rfl, hq⟩ := z
    exact wpAny_pure hq
  · refine wpAny_bind (wpAny_pure ?_)
    simp only [Bool.false_eq_true, if_false]
    refine wpAny_bind (wpAny_mono one (fun r s' z => ?_) fun _ _ e => e)
    obtain ⟨v, rfl, hq⟩ := z
    exact wpAny_pure hq
end
/-! ### in the layer -/
structure EqA (g : G) (P : Program) (w : World) (mg : Str → Option Value) (base : Heap) (k : Nat) (c : Nat) (F : Fn) : Prop where
  ex : ∃ (f : Addr) (fd : FuncData) (ps : List Str), ps.length = 2 ∧ FnOkG P w g.K mg base (L2.CX P w) k f fd ps (spD g ps.length F) ∧ PySem.W.findIn g.K (.ref (g.ca c)) "__eq__" = some (some (.ref f)) ∧ PySem.W.isFn g.K (.ref f) = true ∧ Binds g.K fd ps [] ∧
    PySem.W.findIn g.K (.ref (g.ca c)) "__ne__" = some (some (.builtin "object.__ne__")) ∧ PySem.W.mroIn g.K (g.ca c) (.type "object") = some true
theorem EqA.mono {g : G} {P : Program} {w : World} {mg : Str → Option Value} {base : Heap} {j k c : Nat} {F : Fn} (A : EqA g P w mg base j c F) (h : j ≤ k) : EqA g P w mg base k c F := by
  obtain ⟨f, fd, ps, hl, ok, r⟩ := A.ex
  exact ⟨f, fd, ps, hl, ok.mono h, r⟩
def insC (h : Hh) (d : D) (c : Nat) : Bool := match insOf h d with
  | some (_, c', _) => c' == c
  | none => false
theorem insC_inv {h : Hh} {d : D} {c : Nat} (e : insC h d c = true) : ∃ i fs, d = .ref i ∧ h[i]? = some (.ins c fs) := by
  unfold insC at e
  split at e
  · rename_i i c' fs q
    obtain ⟨rfl, q2⟩ := insOf_inv q
    have : c' = c := by simpa using e
    subst this
    exact ⟨i, fs, rfl, q2⟩
  · cases e
/-- the answer of a pure own == -/
noncomputable def eqO (c : Nat) (F : Fn) (x y : D) (h : Hh) : Option Bool := if insC h x c = true ∧ insC h y c = true then (match F [x, y] h with
  | .ok (.bl b) h' => (open Classical in if h' = h then some b else none)
  | _ => none) else none
theorem eqO_inv {c : Nat} {F : Fn} {x y : D} {h : Hh} {b : Bool} (e : eqO c F x y h = some b) : insC h x c = true ∧ insC h y c = true ∧ F [x, y] h = .ok (.bl b) h := by
  unfold eqO at e
  split at e
  · rename_i q
    refine ⟨q.1, q.2, ?_⟩
    split at e
    · rename_i b' h' q2
      split at e
      · rename_i q3
        cases e
        rw [q2, q3]
      · cases e
    · cases e
  · cases e
noncomputable def oEqO (c : Nat) (F : Fn) (x y : D) (h : Hh) : Option D := (eqO c F x y h).map D.bl
noncomputable def oNeO (c : Nat) (F : Fn) (x y : D) (h : Hh) : Option D := (eqO c F x y h).map fun b => D.bl (!b)
section
variable {g : G} {X : Cx} {W : WX} {k c : Nat} {F : Fn}
theorem own_call (cx : Cok g X W) {A : Around} {sub : A.frames = X.A.frames} {f : Addr} {fd : FuncData} {ps : List Str} (hp : ps.length = 2) (ok : FnOkG X.prog X.w X.K X.mg X.base (L2.CX X.prog X.w) k f fd ps (spD g ps.length F)) (hb : Binds X.K fd ps []) (hr : Room k A) (hgd : A.guards = some [])
    {pins : List (Addr × Obj)} {s : Shared} {sg : St} {H : Hp} {a b : Addr} {rho : Rho} {h : Hh} {d1 d2 : D} {r : Bool} (I : Inv X pins sg H s) (S : Sim g rho h H) (r1 : Rp g rho H d1 (.ref a)) (r2 : Rp g rho H d2 (.ref b)) (e : F [d1, d2] h = .ok (.bl r) h) {Q : Value → Shared → Prop}
    (hQ : ∀ s' H', Inv X pins sg H' s' → (∃ rho', Sim g rho' h H' ∧ Ext rho H rho' H') → Q (.bool r) s') : wpAny (model X.prog X.w) A (call (.ref f) [.ref a, .ref b]) Q X.xe s := by
  have hx := passes_call (E := fun _ _ _ => False) cx.tk fun _ _ _ _ h => h.elim
  have hsp : spD g ps.length F [.ref a, .ref b] H (fun v H' => v = .bl r ∧ ∃ rho', Sim g rho' h H' ∧ Ext rho H rho' H') (fun _ _ _ => False) := by
    refine ⟨by rw [hp]; rfl, rho, [d1, d2], h, S, RpL.cons r1 (RpL.cons r2 RpL.nil), ?_⟩
    rw [e]
    intro rho' H' v S' e' rv
    exact ⟨rv.bl_, rho', S', e'⟩
  have e0 : Env0 X.prog X.w X.K X.mg X.base A X.stack s H := by
    have e := I.env0
    exact ⟨by rw [sub]; exact e.frames, e.mod, e.bs, e.bsz, e.funs, e.frf, e.hok, e.bare⟩
  have rr : Vals [V.ref a, V.ref b] [Value.ref a, Value.ref b] := .cons rfl (.cons rfl .nil)
  refine wpAny_call (codeAny_mono (ok.run A X.stack s H ⟨[.ref a, .ref b], []⟩ [.ref a, .ref b] [.ref a, .ref b] _ _ hr hgd e0 (by
    have := hb s [.ref a, .ref b] I.kIn (by simpa using hp.symm)
    simpa using this) rr hsp) fun r' s' hq => ?_)
  cases r' with
  | error er => exact hx pins sg H s er s' I hq
  | ok fl =>
    cases fl with
    | ret w =>
      obtain ⟨z, H', I', rz, ez, q⟩ := I.after hq
      subst ez
      cases rz
      exact hQ s' H' I' q
    | next => exact False.elim hq
    | brk => exact False.elim hq
    | cont => exact False.elim hq
theorem oEqO_ok (A : EqA g X.prog X.w X.mg X.base k c F) (hr : Room (k + 1) X.A) (cx : Cok g X W) : OpD g X (compareOp .Eq) (oEqO c F) := by
  intro pins s sg H x y v u Q I rx ry hh
  obtain ⟨rho, h, d1, d2, d, S, r1, r2, eq, G⟩ := hh
  obtain ⟨b, eb, rfl⟩ := Option.map_eq_some_iff.mp eq
  obtain ⟨i1, i2, eF⟩ := eqO_inv eb
  obtain ⟨i, fs, rfl, q1⟩ := insC_inv i1
  obtain ⟨j, gs, rfl, q2⟩ := insC_inv i2
  obtain ⟨f, fd, ps, hp, ok, hs, hf, hb, hne, hm⟩ := A.ex
  rw [cx.K] at ok hs hf hb
  obtain ⟨a, dx, ws, rfl, _, ha, _, _⟩ := ref_ins S r1 q1
  obtain ⟨a2, dx2, ws2, rfl, _, ha2, _, _⟩ := ref_ins S r2 q2
  cases rx
  cases ry
  obtain ⟨mA, J, _⟩ := ins_get I.hok ha
  obtain ⟨mB, J', _⟩ := ins_get I.hok ha2
  obtain ⟨od, J, _⟩ := J.look
  obtain ⟨od', J', _⟩ := J'.look
  obtain ⟨m, hF⟩ := I.fr
  show wpAny (model X.prog X.w) X.A (richCompare .Eq (.ref a) (.ref a2)) (EP X pins sg Q) X.xe s
  refine PySem.W.cmp_K (op := .Eq) (tb := .ref (g.ca c)) cx.room.units0 hF I.ok.mod.kin J J'.type (by simp [PySem.W.notFirst]) hs hf ?_
  refine own_call cx (sub := rfl) hp ok hb (hr.mono (by omega)) cx.gd I S r1 r2 eF fun s' H' I' ⟨rho', S', e'⟩ => ?_
  exact ⟨.bl b, H', I', rfl, G rho' H' _ S' e' Rp.bl'⟩
theorem oNeO_ok (A : EqA g X.prog X.w X.mg X.base k c F) (hr : Room (k + 1) X.A) (cx : Cok g X W) : OpD g X (compareOp .NotEq) (oNeO c F) := by
  intro pins s sg H x y v u Q I rx ry hh
  obtain ⟨rho, h, d1, d2, d, S, r1, r2, eq, G⟩ := hh
  obtain ⟨b, eb, rfl⟩ := Option.map_eq_some_iff.mp eq
  obtain ⟨i1, i2, eF⟩ := eqO_inv eb
  obtain ⟨i, fs, rfl, q1⟩ := insC_inv i1
  obtain ⟨j, gs, rfl, q2⟩ := insC_inv i2
  obtain ⟨f, fd, ps, hp, ok, hs, hf, hb, hne, hm⟩ := A.ex
  rw [cx.K] at ok hs hf hb hne hm
  obtain ⟨a, dx, ws, rfl, _, ha, _, _⟩ := ref_ins S r1 q1
  obtain ⟨a2, dx2, ws2, rfl, _, ha2, _, _⟩ := ref_ins S r2 q2
  cases rx
  cases ry
  obtain ⟨mA, J, _⟩ := ins_get I.hok ha
  obtain ⟨mB, J', _⟩ := ins_get I.hok ha2
  obtain ⟨od, J, _⟩ := J.look
  obtain ⟨od', J', _⟩ := J'.look
  obtain ⟨m, hF⟩ := I.fr
  show wpAny (model X.prog X.w) X.A (richCompare .NotEq (.ref a) (.ref a2)) (EP X pins sg Q) X.xe s
  refine cmp_ne_K (tb := .ref (g.ca c)) (by have := cx.room.units; omega) hF I.ok.mod.kin J J'.type (by simp [PySem.W.notFirst]) hne hs hf hm ?_
  refine own_call cx (A := X.A.in1) (sub := rfl) hp ok hb hr.in1 cx.gd I S r1 r2 eF fun s' H' I' ⟨rho', S', e'⟩ => ?_
  exact ⟨b, rfl, .bl (!b), H', I', rfl, G rho' H' _ S' e' Rp.bl'⟩
end
/-! ### what the head tells -/
theorem eqB_ok {K : PySem.W.Frag} {C : Addr} (c : eqB K C = true) : PySem.W.findIn K (.ref C) "__eq__" = some (some (.ref (He.ma K C "__eq__"))) ∧ PySem.W.isFn K (.ref (He.ma K C "__eq__")) = true ∧ PySem.W.findIn K (.ref C) "__ne__" = some (some (.builtin "object.__ne__")) ∧ PySem.W.mroIn K C (.type "object") = some true := by
  unfold eqB at c
  simp only [Bool.and_eq_true, decide_eq_true_eq] at c
  exact c
theorem isB2_ok {g : G} (c : isB2 g.K (g.ca 0) (g.ca 1) = true) : IsF g 2 (fun c d => c == d) := by
  unfold isB2 at c
  simp only [Bool.and_eq_true, decide_eq_true_eq] at c
  obtain ⟨a, b, c1, c2⟩ := c
  unfold isB at a b
  simp only [Bool.and_eq_true, decide_eq_true_eq, List.all_eq_true] at a b
  obtain ⟨a1, a2, a3, a4, a5, a6⟩ := a
  obtain ⟨b1, b2, b3, b4, b5, b6⟩ := b
  have z : ∀ {c : Nat}, c < 2 → c = 0 ∨ c = 1 := fun {c} h => by omega
  refine ⟨fun T hT c hc => ?_, fun c c' hc hc' => ?_, fun c hc T hT => ?_, fun c hc => ?_, a4, a5, fun c hc => ?_⟩
  · rcases z hc with rfl | rfl
    · exact (a1 T hT).1
    · exact (b1 T hT).1
  · rcases z hc with rfl | rfl <;> rcases z hc' with rfl | rfl
    · exact a2
    · exact c1
    · exact c2
    · exact b2
  · rcases z hc with rfl | rfl
    · exact (a1 T hT).2
    · exact (b1 T hT).2
  · rcases z hc with rfl | rfl
    · exact a3
    · exact b3
  · rcases z hc with rfl | rfl
    · exact a6
    · exact b6
/-! ### a list times an int -/
def oRep (x y : D) (h : Hh) : Option D := match lstOf h x, y with
  | some xs, .int k => if lim k.natAbs && lim (xs.length * k.toNat) then some (.lst (List.replicate k.toNat xs).flatten) else none
  | _, _ => none
theorem rpl_flat {g : G} {rho : Rho} {H : Hp} {xs : List D} {vs : List V} (r : RpL g rho H xs vs) : ∀ n : Nat, RpL g rho H (List.replicate n xs).flatten (List.replicate n vs).flatten
  | 0 => RpL.nil
  | n + 1 => by
    rw [List.replicate_succ, List.replicate_succ, List.flatten_cons, List.flatten_cons]
    exact r.app (rpl_flat r n)
theorem oRep_ok {g : G} {X : Cx} : OpD g X (binaryOp .Mult) oRep := by
  intro pins s sg H x y v u Q I rx ry hh
  obtain ⟨rho, h, d1, d2, d, S, r1, r2, eq, A⟩ := hh
  unfold oRep at eq
  split at eq
  · rename_i xs k e1
    split at eq
    · rename_i hz
      rw [Bool.and_eq_true] at hz
      cases eq
      obtain ⟨a, vs, rfl, t1, l1⟩ := lst_ok S r1 e1
      have q2 := r2.int_
      subst q2
      have z1 := lim_le hz.1
      have z2 := lim_le hz.2
      rw [sizeLine_eq] at z1
      refine op_rep pins s sg H _ _ v u Q I rx ry ⟨a, k, vs, rfl, rfl, t1, by omega, by omega, by rw [← l1.length]; exact z2, fun p hp => ?_⟩
      obtain ⟨s1, s2, s3⟩ := new_lst S hp (rpl_flat l1 k.toNat)
      exact A rho _ _ s1 s2 s3
    · cases eq
  · cases eq
end DL

set_option maxHeartbeats 1000000
/-! A run keeps the sleeping generators that it does not wake; that it does not wake them is known where it runs with dead ones in their places. -/
namespace DL
open PySem PySem.Spec PyProof.Rows L2
def isSusp : GenState → Bool
  | .suspended .. => true
  | _ => false
def deadG : GenState → GenState
  | .suspended _ l c p fs cl => .suspended (fun _ => .unsupported "dead") l c p fs cl
  | x => x
theorem deadG_seen (x : GenState) : (deadG x).seen = x.seen := by cases x <;> rfl
theorem deadG_bare (x : GenState) : (deadG x).bare = x.bare := by cases x <;> rfl
theorem not_runs_dead {M : Model} {Γ : PySem.Ctx} {p : Pos} {t : Sem PySem.Fin} {fs : List Frame} {s s' : Shared} {e : End} (h : Runs M Γ p t fs s e s') : ∀ w, t ≠ .unsupported w := by
  induction h <;> intro w hw <;> first | (cases hw; done) | skip
  all_goals first
    | exact (by rename_i ih; exact ih w hw)
    | exact (by rename_i ih _; exact ih w hw)
/-- the frozen ones -/
abbrev Frz := Nat → Option GenState
def thawA (F : Frz) (a : Array GenState) : Array GenState := a.mapIdx fun i x => (F i).getD x
def thaw (F : Frz) (s : Shared) : Shared := { s with gens := thawA F s.gens }
structure GoodF (F : Frz) (a : Array GenState) : Prop where
  fr : ∀ i gs, F i = some gs → isSusp gs = true ∧ a[i]? = some (deadG gs)
  ok : ∀ i k l c p fs cl, F i = none → a[i]? = some (.suspended k l c p fs cl) → splitAtGen fs = none
theorem thawA_size (F : Frz) (a : Array GenState) : (thawA F a).size = a.size := by unfold thawA; simp
theorem thawA_get (F : Frz) (a : Array GenState) (i : Nat) : (thawA F a)[i]? = (a[i]?).map fun x => (F i).getD x := by
  unfold thawA; simp
theorem thawA_set {F : Frz} {a : Array GenState} {g : Nat} {x : GenState} (h : F g = none) : thawA F (a.setIfInBounds g x) = (thawA F a).setIfInBounds g x := by
  apply Array.ext_getElem?
  intro i
  rw [thawA_get, Array.getElem?_setIfInBounds, Array.getElem?_setIfInBounds, thawA_get, thawA_size]
  by_cases q : g = i
  · subst q
    rw [if_pos rfl, if_pos rfl]
    by_cases q2 : g < a.size
    · rw [if_pos q2, Option.map_some, h]; rfl
    · rw [if_neg q2]; rfl
  · rw [if_neg q, if_neg q]
theorem thawA_push {F : Frz} {a : Array GenState} {x : GenState} (h : F a.size = none) : thawA F (a.push x) = (thawA F a).push x := by
  apply Array.ext_getElem?
  intro i
  rw [thawA_get, Array.getElem?_push, Array.getElem?_push, thawA_get, thawA_size]
  by_cases q : i = a.size
  · subst q
    rw [if_pos rfl, if_pos rfl, Option.map_some, h]; rfl
  · rw [if_neg q, if_neg q]
theorem GoodF.none_size {F : Frz} {a : Array GenState} (G : GoodF F a) : F a.size = none := by
  cases q : F a.size with
  | none => rfl
  | some gs =>
    have := (G.fr _ _ q).2
    simp at this
theorem GoodF.set {F : Frz} {a : Array GenState} (G : GoodF F a) {g : Nat} {x : GenState} (h : F g = none) (hx : ∀ k l c p fs cl, x = .suspended k l c p fs cl → splitAtGen fs = none) : GoodF F (a.setIfInBounds g x) where
  fr := fun i gs e => by
    have hn : g ≠ i := fun z => by rw [z] at h; rw [h] at e; cases e
    rw [Array.getElem?_setIfInBounds, if_neg hn]
    exact G.fr i gs e
  ok := fun i k l c p fs cl hi e => by
    rw [Array.getElem?_setIfInBounds] at e
    by_cases q : g = i
    · rw [if_pos q] at e
      split at e
      · cases e; exact hx _ _ _ _ _ _ rfl
      · cases e
    · rw [if_neg q] at e
      exact G.ok i k l c p fs cl hi e
theorem GoodF.push {F : Frz} {a : Array GenState} (G : GoodF F a) {c : Code} : GoodF F (a.push (.fresh c)) where
  fr := fun i gs e => by
    have hn : i ≠ a.size := fun z => by rw [z, G.none_size] at e; cases e
    rw [Array.getElem?_push, if_neg hn]
    exact G.fr i gs e
  ok := fun i k l c' p fs cl hi e => by
    rw [Array.getElem?_push] at e
    by_cases q : i = a.size
    · rw [if_pos q] at e; cases e
    · rw [if_neg q] at e
      exact G.ok i k l c' p fs cl hi e
def endOk : End → Prop
  | .ret _ => True
  | .susp _ _ _ _ _ _ fs => splitAtGen fs = none
theorem endOk_set {e : End} (h : endOk e) : ∀ k l c p fs cl, e.genState = .suspended k l c p fs cl → splitAtGen fs = none := fun k l c p fs cl q => by
  cases e with
  | ret r => cases q
  | susp v g l' k' c' p' fs' => cases q; exact h
theorem splitAtGen_app : ∀ {a b : List Frame}, splitAtGen a = none → splitAtGen b = none → splitAtGen (a ++ b) = none
  | [], b, _, h => h
  | .gen .. :: a, b, h, _ => by cases h
  | .ret k h0 g l c p kp :: a, b, h, hb => by
    show (splitAtGen (a ++ b)).map _ = none
    have h' : (splitAtGen a).map (fun (x : List Frame × (Nat × (GenResult → Sem PySem.Fin) × Code × Pos) × List Frame) => (Frame.ret k h0 g l c p kp :: x.1, x.2.1, x.2.2)) = none := h
    rw [splitAtGen_app (Option.map_eq_none_iff.mp h') hb]
    rfl

theorem thaw_set {F : Frz} {s : Shared} {g : Nat} {x : GenState} (h : F g = none) : thaw F (s.setGen g x) = (thaw F s).setGen g x := by
  show ({ s with gens := thawA F (s.gens.setIfInBounds g x) } : Shared) = { s with gens := (thawA F s.gens).setIfInBounds g x }
  rw [thawA_set h]
theorem thaw_gen {F : Frz} {s : Shared} {g : Nat} {x : GenState} (h : F g = none) (e : s.gens[g]? = some x) : (thaw F s).gens[g]? = some x := by
  show (thawA F s.gens)[g]? = _
  rw [thawA_get, e, Option.map_some, h]; rfl
theorem unfrozen {F : Frz} {a : Array GenState} (G : GoodF F a) {g : Nat} {x : GenState} (e : a[g]? = some x) (h : isSusp x = false) : F g = none := by
  cases q : F g with
  | none => rfl
  | some gs =>
    obtain ⟨h1, h2⟩ := G.fr g gs q
    rw [e] at h2
    cases gs <;> first | (cases h1; done) | (cases h2; cases h)
theorem thaw_seen {F : Frz} {s : Shared} (G : GoodF F s.gens) {g : Nat} {x : GenState} (e : s.gens[g]? = some x) : ∃ y, (thaw F s).gens[g]? = some y ∧ y.seen = x.seen := by
  cases q : F g with
  | none => exact ⟨x, thaw_gen q e, rfl⟩
  | some gs =>
    obtain ⟨_, h2⟩ := G.fr g gs q
    rw [e] at h2
    have hx : x = deadG gs := Option.some.inj h2
    refine ⟨gs, ?_, ?_⟩
    · show (thawA F s.gens)[g]? = _
      rw [thawA_get, e, Option.map_some, q]; rfl
    · rw [hx, deadG_seen]
theorem thaw_push {F : Frz} {s : Shared} (G : GoodF F s.gens) {x : GenState} : thaw F { s with gens := s.gens.push x } = { thaw F s with gens := (thaw F s).gens.push x } := by
  show ({ s with gens := thawA F (s.gens.push _) } : Shared) = { s with gens := (thawA F s.gens).push _ }
  rw [thawA_push G.none_size]
theorem running_ok : ∀ (k : Resume → Sem PySem.Fin) l c p fs cl, GenState.running = .suspended k l c p fs cl → splitAtGen fs = none := fun _ _ _ _ _ _ h => nomatch h
theorem finished_ok : ∀ (k : Resume → Sem PySem.Fin) l c p fs cl, GenState.finished = .suspended k l c p fs cl → splitAtGen fs = none := fun _ _ _ _ _ _ h => nomatch h
theorem split_tail {k : Result → Sem PySem.Fin} {h0 g l c p kp} {fs : List Frame} (h : splitAtGen (.ret k h0 g l c p kp :: fs) = none) : splitAtGen fs = none := by
  have h' : (splitAtGen fs).map (fun (x : List Frame × (Nat × (GenResult → Sem PySem.Fin) × Code × Pos) × List Frame) => (Frame.ret k h0 g l c p kp :: x.1, x.2.1, x.2.2)) = none := h
  exact Option.map_eq_none_iff.mp h'
/-- the run is the same with the frozen ones alive -/
theorem runs_thaw {M : Model} {F : Frz} {Γ : PySem.Ctx} {p : Pos} {t : Sem PySem.Fin} {fs : List Frame} {s s' : Shared} {e : End} (h : Runs M Γ p t fs s e s') :
    splitAtGen fs = none → GoodF F s.gens → Runs M Γ p t fs (thaw F s) e (thaw F s') ∧ GoodF F s'.gens ∧ endOk e := by
  induction h with
  | done => exact fun _ G => ⟨.done, G, trivial⟩
  | raise => exact fun _ G => ⟨.raise, G, trivial⟩
  | again hq _ ih => exact fun hf G => let ⟨a, b, c⟩ := ih rfl G; ⟨.again hq a, b, c⟩
  | rule _ ih => exact fun hf G => let ⟨a, b, c⟩ := ih rfl G; ⟨.rule a, b, c⟩
  | «at» _ ih => exact fun hf G => let ⟨a, b, c⟩ := ih rfl G; ⟨.at a, b, c⟩
  | load ho _ ih => exact fun hf G => let ⟨a, b, c⟩ := ih rfl G; ⟨.load ho a, b, c⟩
  | update ho _ ih => exact fun hf G => let ⟨a, b, c⟩ := ih rfl G; ⟨.update ho a, b, c⟩
  | loadIfAlive _ ih => exact fun hf G => let ⟨a, b, c⟩ := ih rfl G; ⟨.loadIfAlive a, b, c⟩
  | point _ ih => exact fun hf G => let ⟨a, b, c⟩ := ih rfl G; ⟨.point a, b, c⟩
  | alloc _ ih => exact fun hf G => let ⟨a, b, c⟩ := ih rfl G; ⟨.alloc a, b, c⟩
  | fresh _ ih => exact fun hf G => let ⟨a, b, c⟩ := ih rfl G; ⟨.fresh a, b, c⟩
  | ask _ ih => exact fun hf G => let ⟨a, b, c⟩ := ih rfl G; ⟨.ask a, b, c⟩
  | choose hn _ ih => exact fun hf G => let ⟨a, b, c⟩ := ih rfl G; ⟨.choose hn a, b, c⟩
  | os _ ih => exact fun hf G => let ⟨a, b, c⟩ := ih rfl G; ⟨.os a, b, c⟩
  | handled _ ih => exact fun hf G => let ⟨a, b, c⟩ := ih rfl G; ⟨.handled a, b, c⟩
  | genState hg _ ih =>
    intro hf G
    obtain ⟨a, b, c⟩ := ih rfl G
    obtain ⟨y, e1, e2⟩ := thaw_seen G hg
    exact ⟨.genState e1 (by rw [e2]; exact a), b, c⟩
  | stack _ ih => exact fun hf G => let ⟨a, b, c⟩ := ih rfl G; ⟨.stack a, b, c⟩
  | thread _ ih => exact fun hf G => let ⟨a, b, c⟩ := ih rfl G; ⟨.thread a, b, c⟩
  | newGen _ ih =>
    intro hf G
    obtain ⟨a, b, c'⟩ := ih rfl G.push
    refine ⟨.newGen ?_, b, c'⟩
    rw [thaw_push G] at a
    have e2 : ∀ s : Shared, (thaw F s).gens.size = s.gens.size := fun s => thawA_size F s.gens
    rw [e2]
    exact a
  | call _ _ ih1 ih2 => exact fun hf G => let ⟨a, b, _⟩ := ih1 rfl G; let ⟨a2, b2, c2⟩ := ih2 rfl b; ⟨.call a a2, b2, c2⟩
  | callSusp _ ih => exact fun hf G => let ⟨a, b, c⟩ := ih rfl G; ⟨.callSusp a, b, splitAtGen_app c rfl⟩
  | yield => exact fun _ G => ⟨.yield, G, rfl⟩
  | resumeFresh hg _ hq _ ih1 ih2 =>
    intro hf G
    have hn := unfrozen G hg rfl
    obtain ⟨a, b, c⟩ := ih1 rfl (G.set hn running_ok)
    rw [thaw_set hn] at a
    obtain ⟨a2, b2, c2⟩ := ih2 rfl (b.set hn (endOk_set c))
    rw [thaw_set hn] at a2
    exact ⟨.resumeFresh (thaw_gen hn hg) a hq a2, b2, c2⟩
  | @resumeSuspended Γ p g r l k s k₀ l₀ c₀ p₀ fs cl e₁ s₁ e s' hg hr1 hq _ ih1 ih2 =>
    intro hf G
    cases q : F g with
    | none =>
      obtain ⟨a, b, c⟩ := ih1 (G.ok _ _ _ _ _ _ _ q hg) (G.set q running_ok)
      rw [thaw_set q] at a
      obtain ⟨a2, b2, c2⟩ := ih2 rfl (b.set q (endOk_set c))
      rw [thaw_set q] at a2
      exact ⟨.resumeSuspended (thaw_gen q hg) a hq a2, b2, c2⟩
    | some gs =>
      obtain ⟨h1, h2⟩ := G.fr g gs q
      rw [hg] at h2
      cases gs with
      | suspended k2 l2 c2 p2 fs2 cl2 =>
        cases h2
        exact absurd rfl (not_runs_dead hr1 "dead")
      | fresh c => cases h1
      | running => cases h1
      | finished => cases h1
  | resumeJustStarted hg hv _ ih => exact fun hf G => let ⟨a, b, c⟩ := ih rfl G; ⟨.resumeJustStarted (thaw_gen (unfrozen G hg rfl) hg) hv a, b, c⟩
  | resumeThrowFresh hg _ ih =>
    intro hf G
    have hn := unfrozen G hg rfl
    obtain ⟨a, b, c⟩ := ih rfl (G.set hn finished_ok)
    rw [thaw_set hn] at a
    exact ⟨.resumeThrowFresh (thaw_gen hn hg) a, b, c⟩
  | resumeRunning hg _ ih => exact fun hf G => let ⟨a, b, c⟩ := ih rfl G; ⟨.resumeRunning (thaw_gen (unfrozen G hg rfl) hg) a, b, c⟩
  | resumeFinished hg _ ih => exact fun hf G => let ⟨a, b, c⟩ := ih rfl G; ⟨.resumeFinished (thaw_gen (unfrozen G hg rfl) hg) a, b, c⟩
  | segRet _ _ ih1 ih2 => exact fun hf G => let ⟨a, b, _⟩ := ih1 rfl G; let ⟨a2, b2, c2⟩ := ih2 (split_tail hf) b; ⟨.segRet a a2, b2, c2⟩
  | segGen _ _ _ _ => exact fun hf _ => nomatch hf
  | segSuspOut hs _ ih => exact fun hf G => let ⟨a, b, c⟩ := ih rfl G; ⟨.segSuspOut hs a, b, splitAtGen_app c hs⟩
  | segSuspGen hs _ _ _ _ _ => exact fun hf _ => by rw [hf] at hs; cases hs
theorem wakes_thaw {M : Model} {F : Frz} {Γ : PySem.Ctx} {p : Pos} {g : Nat} {r : Resume} {s s' : Shared} {res : GenResult} (h : Wakes M Γ p g r s res s') (G : GoodF F s.gens) : Wakes M Γ p g r (thaw F s) res (thaw F s') ∧ GoodF F s'.gens := by
  unfold Wakes at h
  cases q : s.gens[g]? with
  | none => rw [q] at h; exact h.elim
  | some st =>
    rw [q] at h
    cases hF : F g with
    | some gs =>
      obtain ⟨h1, h2⟩ := G.fr g gs hF
      rw [q] at h2
      cases gs with
      | suspended k2 l2 c2 p2 fs2 cl2 =>
        cases h2
        obtain ⟨e₁, s₁, hr, _⟩ := h
        exact absurd rfl (not_runs_dead hr "dead")
      | fresh c => cases h1
      | running => cases h1
      | finished => cases h1
    | none =>
      unfold Wakes
      rw [thaw_gen hF q]
      cases st with
      | fresh c =>
        cases r with
        | throw x => exact ⟨⟨h.1, by rw [h.2, thaw_set hF]⟩, by rw [h.2]; exact G.set hF finished_ok⟩
        | send v =>
          cases v with
          | none =>
            obtain ⟨e₁, s₁, hr, hq, hres, hs⟩ := h
            obtain ⟨a, b, c⟩ := runs_thaw hr rfl (G.set hF running_ok)
            rw [thaw_set hF] at a
            refine ⟨⟨e₁, thaw F s₁, a, hq, hres, ?_⟩, ?_⟩
            · rw [hs, thaw_set hF]
            · rw [hs]; exact b.set hF (endOk_set c)
          | _ => exact ⟨⟨h.1, by rw [h.2]⟩, by rw [h.2]; exact G⟩
      | suspended k l c p' fs cl =>
        obtain ⟨e₁, s₁, hr, hq, hres, hs⟩ := h
        obtain ⟨a, b, c⟩ := runs_thaw hr (G.ok _ _ _ _ _ _ _ hF q) (G.set hF running_ok)
        rw [thaw_set hF] at a
        refine ⟨⟨e₁, thaw F s₁, a, hq, hres, ?_⟩, ?_⟩
        · rw [hs, thaw_set hF]
        · rw [hs]; exact b.set hF (endOk_set c)
      | running => exact ⟨⟨h.1, by rw [h.2]⟩, by rw [h.2]; exact G⟩
      | finished => exact ⟨⟨h.1, by rw [h.2]⟩, by rw [h.2]; exact G⟩
open Sem (wp) in
theorem wp_thaw {α : Type} (M : Model) (F : Frz) (Γ : PySem.Ctx) (t : Sem α) : ∀ (Q : α → Pos → Shared → Prop) (E : Value → Pos → Shared → Prop) (p : Pos) (s : Shared), GoodF F s.gens → wp M Γ t Q E p s →
    wp M Γ t (fun a p' s' => ∃ sg, s' = thaw F sg ∧ GoodF F sg.gens ∧ Q a p' sg) (fun e p' s' => ∃ sg, s' = thaw F sg ∧ GoodF F sg.gens ∧ E e p' sg) p (thaw F s) := by
  induction t with
  | pure a => intro Q E p s G h; exact ⟨s, rfl, G, h⟩
  | raise e => intro Q E p s G h; exact ⟨s, rfl, G, h⟩
  | unsupported _ => intro Q E p s _ h; exact h
  | finish _ => intro Q E p s _ h; exact h
  | rule _ k ih => intro Q E p s G h; exact ih () Q E p s G h
  | «at» p' k ih => intro Q E p s G h; exact ih () Q E p' s G h
  | load a _ k ih => intro Q E p s G h; obtain ⟨o, ho, h⟩ := h; exact ⟨o, ho, ih o Q E p s G h⟩
  | update a _ f k ih => intro Q E p s G h; exact ⟨h.1, ih () Q E p { s with heap := s.heap.update a f } G h.2⟩
  | loadIfAlive a k ih => intro Q E p s G h; exact ih _ Q E p s G h
  | point _ k ih => intro Q E p s G h; exact ih () Q E p s G h
  | register _ _ => intro Q E p s _ h; exact h
  | alloc o k ih => intro Q E p s G h; exact ih _ Q E p { s with heap := s.heap.push o } G h
  | fresh k ih => intro Q E p s G h; exact ih _ Q E p { s with toks := s.toks + 1 } G h
  | ask k ih => intro Q E p s G h; exact ih _ Q E p s G h
  | choose src m k ih => intro Q E p s G h; exact ⟨h.1, ih _ Q E p { s with drawn := s.drawn.bump src } G h.2⟩
  | os q _ k ih => intro Q E p s G h; exact ih _ Q E p { s with os := (Os.step s.os q).1 } G h
  | call c hd _ _ k ih =>
    intro Q E p s G h
    obtain ⟨r, s', hr, h⟩ := h
    obtain ⟨a, b, _⟩ := runs_thaw hr rfl G
    exact ⟨r, thaw F s', a, ih r Q E p s' b h⟩
  | handled own k ih => intro Q E p s G h; exact ih _ Q E p s G h
  | genState g k ih =>
    intro Q E p s G h
    obtain ⟨st, hs, h⟩ := h
    obtain ⟨y, e1, e2⟩ := thaw_seen G hs
    refine ⟨y, e1, ?_⟩
    rw [e2]
    exact ih _ Q E p s G h
  | newGen c k ih =>
    intro Q E p s G h
    have q := ih _ Q E p { s with gens := s.gens.push (.fresh c) } G.push h
    have e1 : thaw F { s with gens := s.gens.push (.fresh c) } = { thaw F s with gens := (thaw F s).gens.push (.fresh c) } := by
      show ({ s with gens := thawA F (s.gens.push _) } : Shared) = { s with gens := (thawA F s.gens).push _ }
      rw [thawA_push G.none_size]
    have e2 : (thaw F s).gens.size = s.gens.size := thawA_size F s.gens
    rw [e1] at q
    show wp M Γ (k (thaw F s).gens.size) _ _ p _
    rw [e2]
    exact q
  | resume g r _ k ih =>
    intro Q E p s G h
    obtain ⟨res, s', hw, h⟩ := h
    obtain ⟨a, b⟩ := wakes_thaw hw G
    exact ⟨res, thaw F s', a, ih res Q E p s' b h⟩
  | yield _ _ _ _ => intro Q E p s _ h; exact h
  | stack k ih => intro Q E p s G h; exact ih _ Q E p s G h
  | fork _ _ => intro Q E p s _ h; exact h
  | thread k ih => intro Q E p s G h; exact ih _ Q E p s G h
  | await _ _ _ _ _ => intro Q E p s _ h; exact h
/-- what a run may have done to the table of generators -/
def Kept (s s' : Shared) : Prop := ∀ (g : Nat) (gs : GenState), s.gens[g]? = some gs → isSusp gs = true → s'.gens[g]? = some gs
def sleepers (a : Array GenState) : Frz := fun i => match a[i]? with
  | some gs => if isSusp gs = true then some gs else none
  | none => none
theorem dead_good (a : Array GenState) : GoodF (sleepers a) (a.map deadG) where
  fr := fun i gs e => by
    unfold sleepers at e
    cases q : a[i]? with
    | none => rw [q] at e; cases e
    | some x =>
      rw [q] at e
      by_cases z : isSusp x = true
      · simp only [z, if_true] at e
        cases e
        exact ⟨z, by simp [q]⟩
      · simp only [z, if_false] at e
        cases e
  ok := fun i k l c p fs cl e h => by
    exfalso
    rw [Array.getElem?_map] at h
    unfold sleepers at e
    cases q : a[i]? with
    | none => rw [q] at h; cases h
    | some x =>
      rw [q] at h e
      cases x with
      | suspended k2 l2 c2 p2 fs2 cl2 => simp [isSusp] at e
      | fresh c => cases h
      | running => cases h
      | finished => cases h
theorem thaw_dead (a : Array GenState) : thawA (sleepers a) (a.map deadG) = a := by
  apply Array.ext_getElem?
  intro i
  rw [thawA_get, Array.getElem?_map]
  unfold sleepers
  cases q : a[i]? with
  | none => rfl
  | some x => cases x <;> simp [isSusp, deadG]
theorem thaw_bare {a b : Array GenState} (h : AllBare b) (ha : AllBare a) : AllBare (thawA (sleepers a) b) := fun y hy => by
  obtain ⟨i, hi, e⟩ := Array.mem_iff_getElem.mp hy
  have q : (thawA (sleepers a) b)[i]? = some y := by rw [Array.getElem?_eq_getElem hi, e]
  rw [thawA_get] at q
  cases q2 : b[i]? with
  | none => rw [q2] at q; cases q
  | some x =>
    rw [q2, Option.map_some] at q
    have hx := h x (Array.mem_of_getElem? q2)
    unfold sleepers at q
    cases q3 : a[i]? with
    | none => rw [q3] at q; cases q; exact hx
    | some z =>
      rw [q3] at q
      have hz := ha z (Array.mem_of_getElem? q3)
      by_cases c : isSusp z = true
      · simp only [c, if_true, Option.getD_some] at q; cases q; exact hz
      · simp only [c, if_false, Option.getD_none] at q; cases q; exact hx
theorem dead_bare {a : Array GenState} (h : AllBare a) : AllBare (a.map deadG) := fun y hy => by
  obtain ⟨x, hx, e⟩ := Array.mem_map.mp hy
  rw [← e, deadG_bare]
  exact h x hx
/-- THE RULE: what holds behind a run whatever the table of generators is, holds, and the sleeping ones sleep on -/
theorem wpAny_sleep {α : Type} {M : Model} {A : Around} {t : Sem α} {Q : α → Shared → Prop} {E : Value → Shared → Prop} {s : Shared} (hb : AllBare s.gens) (h : ∀ G, AllBare G → wpAny M A t Q E { s with gens := G }) :
    wpAny M A t (fun a s' => Kept s s' ∧ ∃ G, (AllBare G → AllBare s'.gens) ∧ Q a { s' with gens := G }) (fun e s' => Kept s s' ∧ ∃ G, (AllBare G → AllBare s'.gens) ∧ E e { s' with gens := G }) s := by
  intro Γ p hΓ
  have q := wp_thaw M (sleepers s.gens) Γ t _ _ p { s with gens := s.gens.map deadG } (dead_good s.gens) (h _ (dead_bare hb) Γ p hΓ)
  have e0 : thaw (sleepers s.gens) { s with gens := s.gens.map deadG } = s := by
    show ({ s with gens := thawA (sleepers s.gens) (s.gens.map deadG) } : Shared) = s
    rw [thaw_dead]
  rw [e0] at q
  have fin : ∀ (sg : Shared), GoodF (sleepers s.gens) sg.gens → Kept s (thaw (sleepers s.gens) sg) := fun sg G g gs e hs => by
    have hF : sleepers s.gens g = some gs := by
      unfold sleepers
      rw [e]
      simp only [hs, if_true]
    obtain ⟨_, h2⟩ := G.fr g gs hF
    show (thawA (sleepers s.gens) sg.gens)[g]? = _
    rw [thawA_get, h2, Option.map_some, hF]; rfl
  refine Sem.wp_mono M Γ _ (fun a p' s' hq => ?_) (fun e p' s' hq => ?_) _ _ q
  · obtain ⟨sg, rfl, G, hQ⟩ := hq
    exact ⟨fin sg G, sg.gens, fun hb' => thaw_bare hb' hb, hQ⟩
  · obtain ⟨sg, rfl, G, hQ⟩ := hq
    exact ⟨fin sg G, sg.gens, fun hb' => thaw_bare hb' hb, hQ⟩
end DL

set_option maxHeartbeats 2000000
/-! One stretch of a run (up to its end or to the next yield), and what may stand behind it. -/
namespace DL
open PySem PySem.Spec PyProof.Rows L2 GenW
section
variable {M : Model} {A : Around} {Φ : End → Shared → Prop} {c : Code} {fs : List Frame} {s : Shared}
def One (M : Model) (A : Around) (Φ : End → Shared → Prop) (c : Code) (t : Sem PySem.Fin) (fs : List Frame) (s : Shared) : Prop :=
  ∀ (Γ : PySem.Ctx) (p : Pos), Γ.code = c → Γ.Woken A → ∃ e s', Runs M Γ p t fs s e s' ∧ Φ e s'
theorem one_wrap {α : Type} {m : Sem α} {K : α → Sem PySem.Fin} {H : Value → Sem PySem.Fin} {gd : Bool → Bool} {lv : List Value → List Value}
    (h : wpAny M (A.over c fs) m (fun a s' => One M A Φ c (K a) fs s') (fun x s' => One M A Φ c (H x) fs s') s) : One M A Φ c (m.wrap K H gd lv) fs s := by
  rintro Γ p rfl hΓ
  exact runs_wrap_of_wp K H gd lv m (h (Γ.over fs) p (hΓ.over fs)) (fun a p' s' h' => h' Γ p' rfl hΓ) (fun x p' s' h' => h' Γ p' rfl hΓ)
theorem one_bind_wrap {α β : Type} {m : Sem α} {K : α → Sem β} {K' : β → Sem PySem.Fin} {H' : Value → Sem PySem.Fin} {gd : Bool → Bool} {lv : List Value → List Value}
    (h : wpAny M (A.over c fs) m (fun a s' => One M A Φ c ((K a).wrap K' H' gd lv) fs s') (fun x s' => One M A Φ c (H' x) fs s') s) : One M A Φ c ((m >>= K).wrap K' H' gd lv) fs s := by
  rw [Sem.bind_eq_wrap', Sem.wrap_wrap]; exact one_wrap h
theorem one_at {p' : Pos} {k : Unit → Sem PySem.Fin} (h : One M A Φ c (k ()) fs s) : One M A Φ c (.at p' k) fs s :=
  one_wrap (m := standAt p') (K := k) (H := .raise) (gd := id) (lv := id) (wpAny_standAt h)
theorem one_point {l : List Value} {k : Unit → Sem PySem.Fin} (h : One M A Φ c (k ()) fs s) : One M A Φ c (.point l k) fs s :=
  one_wrap (m := point) (K := k) (H := .raise) (gd := id) (lv := fun _ => l) (wpAny_point h)
theorem one_call {c' : Code} {h g l} {k : Result → Sem PySem.Fin} (hc : ∀ p, One M A Φ c' (M.den c') (.ret k h g l c p [] :: fs) s) : One M A Φ c (.call c' h g l k) fs s := by
  rintro Γ p rfl hΓ
  obtain ⟨e, s', hr, he⟩ := hc p (Γ.goto c') p rfl (hΓ.goto c')
  exact ⟨e, s', runs_call_seg hr, he⟩
theorem one_leaf {k h g l c₁ p₁ kp} (r : Result) (hk : One M A Φ c₁ (k r) fs s) : One M A Φ c (leafOf r) (.ret k h g l c₁ p₁ kp :: fs) s := by
  rintro Γ p rfl hΓ
  obtain ⟨e, s', hr, he⟩ := hk (Γ.goto c₁) p₁ rfl (hΓ.goto c₁)
  exact ⟨e, s', Runs.pop r hr, he⟩
theorem one_again {c' : Code} (hq : c'.quiet = true) (hc : One M A Φ c' (M.den c') fs s) : One M A Φ c (.pure (.again c')) fs s := by
  rintro Γ p rfl hΓ
  obtain ⟨e, s', hr, he⟩ := hc (Γ.goto c') p rfl (hΓ.goto c')
  exact ⟨e, s', Runs.head (c₁ := c') (fun _ _ x => .again hq x) hr, he⟩
theorem one_end (r : Result) (h : Φ (.ret r) s) : One M A Φ c (leafOf r) [] s := by
  rintro Γ p rfl _
  exact ⟨.ret r, s, Runs.leaf r, h⟩
theorem one_yield {v g l} {k : Resume → Sem PySem.Fin} (hfs : splitAtGen fs = none) (h : ∀ p, Φ (.susp v g l k c p fs) s) : One M A Φ c (.yield v g l k) fs s := by
  rintro Γ p rfl _
  exact ⟨_, s, Runs.yield' fs hfs, h p⟩
theorem One.mono {Ψ : End → Shared → Prop} {t : Sem PySem.Fin} (h : One M A Φ c t fs s) (k : ∀ e s', Φ e s' → Ψ e s') : One M A Ψ c t fs s := fun Γ p hc hΓ => let ⟨e, s', hr, he⟩ := h Γ p hc hΓ; ⟨e, s', hr, k e s' he⟩
end
section
variable {M : Model} {A : Around} {Φ : End → Shared → Prop} {c : Code} {fs : List Frame} {s : Shared} {env : Env} {K : Flow → Sem PySem.Fin} {H : Value → Sem PySem.Fin} {gd : Bool → Bool} {lv : List Value → List Value}
theorem one_execs_nil (h : One M A Φ c (K .next) fs s) : One M A Φ c ((execs [] env).wrap K H gd lv) fs s := h
theorem one_execs_cons {st : Stmt} {rest : List Stmt}
    (h : One M A Φ c ((exec st env).wrap (fun f => match f with | .next => (execs rest env).wrap K H gd lv | f => K f) H gd lv) fs s) : One M A Φ c ((execs (st :: rest) env).wrap K H gd lv) fs s := by rw [execs_cons_wrap]; exact h
theorem one_Yield {e : Expr} {ypos pos : Pos} (hfs : splitAtGen fs = none)
    (h : wpAny M (A.over c fs) (eval e env) (fun v s' => ∀ (k : Resume → Sem PySem.Fin) (l : List Value) (p : Pos), (∀ (Φ' : End → Shared → Prop) (s'' : Shared), One M A Φ' c (K .next) fs s'' → One M A Φ' c (k (.send .none)) fs s'') → Φ (.susp v (gd false) l k c p fs) s')
      (fun x s' => One M A Φ c (H x) fs s') s) (hco : env.scope.isCoroutine = false := by rfl) (hi : interactive env = false := by rfl) :
    One M A Φ c ((exec (.Expr (.Yield (some e) ypos) pos) env).wrap K H gd lv) fs s := by
  rw [exec_Expr env _ pos hi rfl]
  show One M A Φ c (.at pos fun _ => ((eval e env >>= fun v => (standAt ypos >>= fun _ => yieldOut env v)) >>= fun x =>
    dropValue (.Yield (some e) ypos) pos x).wrap K H gd lv) fs s
  have hy : ∀ v, yieldOut env v = yieldValue v := fun v => by simp only [yieldOut, hco, Bool.false_eq_true, if_false]
  simp only [hy]
  refine one_at ?_
  rw [Sem.bind_eq_wrap', Sem.bind_eq_wrap', Sem.wrap_wrap, Sem.wrap_wrap]
  refine one_wrap (wpAny_mono h (fun v s' h' => ?_) fun _ _ x => x)
  refine one_at (one_yield hfs fun p => h' _ _ p fun Φ' s'' hk => ?_)
  exact hk
theorem one_If {test : Expr} {body orelse : List Stmt} {pos : Pos}
    (h : wpAny M (A.over c fs) (isTrue test env (eval test env)) (fun b s' => if b = true then One M A Φ c ((execs body env).wrap K H gd lv) fs s' else One M A Φ c ((execs orelse env).wrap K H gd lv) fs s') (fun x s' => One M A Φ c (H x) fs s') s) :
    One M A Φ c ((exec (.If test body orelse pos) env).wrap K H gd lv) fs s := by
  rw [exec_If]
  refine one_at ?_
  show One M A Φ c ((isTrue test env (eval test env) >>= fun b => if b = true then execs body env else execs orelse env).wrap K H gd lv) fs s
  refine one_bind_wrap (wpAny_mono h (fun b s' hb => ?_) fun _ _ x => x)
  cases b with
  | true => rw [if_pos rfl] at hb ⊢; exact hb
  | false => rw [if_neg Bool.false_ne_true] at hb ⊢; exact hb
theorem one_For {target iter : Expr} {body orelse : List Stmt} {pos : Pos} (hs : ∀ x, foldedSetIterable iter env x = pure x)
    (h : wpAny M (A.over c fs) (eval iter env) (fun x s1 => wpAny M (A.over c fs) (pyIter x) (fun it s2 =>
      ∀ p, One M A Φ (.forLoop target it body orelse env) (M.den (.forLoop target it body orelse env))
        (.ret (fun r => ((match r with | .ok f => (.pure f : Sem Flow) | .error e => .raise e).onRaise (cameBack env)).wrap K H gd lv) none (gd false) (lv []) c p [] :: fs) s2)
      (fun x s' => One M A Φ c (H x) fs s') s1) (fun x s' => One M A Φ c (H x) fs s') s) :
    One M A Φ c ((exec (.For target iter body orelse pos) env).wrap K H gd lv) fs s := by
  rw [exec_For]
  refine one_at ?_
  refine one_bind_wrap (m := eval iter env) (wpAny_mono h (fun x s1 h1 => ?_) fun _ _ x => x)
  refine one_bind_wrap (m := foldedSetIterable iter env x) (wpAny_of_eq (hs x) ?_)
  refine one_at ?_
  refine one_bind_wrap (m := holding [x] (pyIter x)) (wpAny_holding (wpAny_mono h1 (fun it s2 h2 => ?_) fun _ _ x => x))
  exact one_call h2
end
section
variable {prog : Program} {w : World} {A : Around} {Φ : End → Shared → Prop} {fs : List Frame} {s : Shared} {env : Env}
theorem one_forLoop {target : Expr} {it : Value} {body orelse : List Stmt}
    (h : wpAny (model prog w) (A.over (.forLoop target it body orelse env) fs) (pyNext it) (fun r s1 => match r with
        | none => One (model prog w) A Φ (.block orelse env) ((model prog w).den (.block orelse env)) fs s1
        | some v => wpAny (model prog w) (A.over (.forLoop target it body orelse env) fs) (letOwnedTupleGo target it v) (fun _ s2 => wpAny (model prog w) (A.over (.forLoop target it body orelse env) fs) (assign target env v) (fun _ s3 =>
            One (model prog w) A Φ (.forLoop target it body orelse env) ((execs body env).wrap (fun f => match f with
              | .next | .cont => .pure (.again (.forLoop target it body orelse env))
              | .brk => .pure (.done .next)
              | .ret v => .pure (.done (.ret v))) (fun e => (do noteFrame e env; theTreesLotGoes e : Sem Unit).wrap (fun _ => .raise e) .raise id id) id id) fs s3) (fun _ _ => False) s2) (fun _ _ => False) s1) (fun _ _ => False) s) :
    One (model prog w) A Φ (.forLoop target it body orelse env) ((model prog w).den (.forLoop target it body orelse env)) fs s := by
  show One _ A Φ _ ((forTurn target it body orelse env).onRaise (fun x => do noteFrame x env; theTreesLotGoes x)) fs s
  unfold forTurn
  rw [Sem.onRaise_eq_wrap]
  refine one_bind_wrap (m := standAt target.pos) (wpAny_standAt ?_)
  refine one_bind_wrap (m := (pyNext it).onRaise fun _ => standAt { target.pos with line := 0 }) (wpAny_onRaise (wpAny_mono h (fun r s1 h1 => ?_) fun _ _ x => x.elim))
  cases r with
  | none => exact one_again rfl h1
  | some v =>
    refine one_bind_wrap (m := letOwnedTupleGo target it v) (wpAny_mono h1 (fun _ s2 h2 => ?_) fun _ _ x => x.elim)
    refine one_bind_wrap (m := assign target env v) (wpAny_mono h2 (fun _ s3 h3 => ?_) fun _ _ x => x.elim)
    rw [Sem.bind_eq_wrap', Sem.wrap_wrap]
    rw [Sem.wrap_congr (execs body env) _ _ (K' := fun f => match f with
              | .next | .cont => .pure (.again (.forLoop target it body orelse env))
              | .brk => .pure (.done .next)
              | .ret v => .pure (.done (.ret v))) (H' := (fun e => (do noteFrame e env; theTreesLotGoes e : Sem Unit).wrap (fun _ => .raise e) .raise id id))
        (fun f => by cases f <;> rfl)
        (fun e => by first | exact Sem.bind_eq_wrap _ _ | (show (do noteFrame e env; theTreesLotGoes e : Sem Unit).bind (fun _ => .raise e) = _; rw [Sem.bind_eq_wrap]))]
    exact h3
theorem one_block0 (h : One (model prog w) A Φ (.block [] env) (.pure (.done .next)) fs s) : One (model prog w) A Φ (.block [] env) ((model prog w).den (.block [] env)) fs s := h
theorem one_func {body : List Stmt}
    (h : One (model prog w) A Φ (.func body env) ((execs body env).wrap (fun f => .pure (.done (.ret (match f with | .ret v => v | _ => .none))))
      (fun e => (leaving env e).wrap (fun _ => .raise e) .raise id id) id id) fs s) :
    One (model prog w) A Φ (.func body env) ((model prog w).den (.func body env)) fs s := by
  show One _ A Φ _ (.point [] fun _ => ((execs body env).onRaise (leaving env)) >>= _) fs s
  refine one_point ?_
  rw [Sem.onRaise_eq_wrap, Sem.bind_eq_wrap', Sem.wrap_wrap]
  rw [Sem.wrap_congr (execs body env) _ _ (K' := fun f => .pure (.done (.ret (match f with | .ret v => v | _ => .none))))
    (H' := fun e => (leaving env e).wrap (fun _ => .raise e) .raise id id) (fun f => by cases f <;> rfl)
    (fun e => by rw [Sem.bind_eq_wrap, Sem.wrap_wrap]; rfl)]
  exact h
end
/-! ### waking -/
def GoesO (M : Model) (A : Around) (Φ : End → Shared → Prop) (gs : GenState) (s : Shared) : Prop := match gs with
  | .fresh c => One M A Φ c (M.den c) [] s
  | .suspended k _ c _ fs _ => One M A Φ c (k (.send .none)) fs s
  | _ => False
theorem wpAny_resumeO {M : Model} {A : Around} {Φ : End → Shared → Prop} {E : Value → Shared → Prop} {s : Shared} {g : Nat} {gs : GenState} {l : List Value} {α : Type} {k : GenResult → Sem α} {Q : α → Shared → Prop} (hg : s.gens[g]? = some gs)
    (hgo : GoesO M A Φ gs (s.setGen g .running)) (hq : ∀ e s₁, Φ e s₁ → e.quiet = true) (hK : ∀ e s₁, Φ e s₁ → wpAny M A (k e.result) Q E (s₁.setGen g e.genState)) : wpAny M A (.resume g (.send .none) l k) Q E s := by
  intro Γ p hΓ
  rw [Sem.wp_resume]
  have hB : ∀ c, (Γ.wake c p).Woken A := fun c => hΓ.wake c p
  cases gs with
  | fresh c =>
    obtain ⟨e₁, s₁, hr, he⟩ := hgo (Γ.wake c p) p rfl (hB c)
    exact ⟨_, _, by unfold Wakes; rw [hg]; exact ⟨e₁, s₁, hr, hq e₁ s₁ he, rfl, rfl⟩, hK e₁ s₁ he Γ p hΓ⟩
  | suspended k₀ l₀ c₀ p₀ fs₀ cl =>
    obtain ⟨e₁, s₁, hr, he⟩ := hgo (Γ.wake c₀ p) p₀ rfl (hB c₀)
    exact ⟨_, _, by unfold Wakes; rw [hg]; exact ⟨e₁, s₁, hr, hq e₁ s₁ he, rfl, rfl⟩, hK e₁ s₁ he Γ p hΓ⟩
  | running => exact hgo.elim
  | finished => exact hgo.elim
/-- next(g): an item, or the end -/
theorem next_O {P : Program} {w : World} {A : Around} {Φ : End → Shared → Prop} {E : Value → Shared → Prop} {s : Shared} {a : Addr} {g : Nat} {gs : GenState} {Q : Option Value → Shared → Prop} (hh : A.handled = none)
    (hl : s.heap.NoLimit) (hroom : A.depth < recursionLimit) (hg : s.heap.IsGen a g) (hgs : s.gens[g]? = some gs) (hgo : GoesO (model P w) A.in1 Φ gs (s.setGen g .running))
    (hq : ∀ e s₁, Φ e s₁ → e.quiet = true ∧ ∀ x, e ≠ .ret (.error x))
    (hP : ∀ r s₁, Φ (.ret (.ok r)) s₁ → (r = .ret .none ∨ r = .next) ∧ ∀ h', (∀ b o, s₁.heap.get? b = some o → h'.get? b = some o) → Q none { s₁.setGen g .finished with heap := h' })
    (hY : ∀ v gd l k c p fs s₁, Φ (.susp v gd l k c p fs) s₁ → Q (some v) (s₁.setGen g (.suspended k l c p fs (gd || fs.any Frame.guarded)))) : wpAny (model P w) A (pyNext (.ref a)) Q E s := by
  unfold pyNext
  refine wpAny_bind (wpAny_attempt (wpAny_callSpecial?_slot (name := Str.ofString "__next__") hg.typeIs slot_gen_next
    (wpAny_call_entry slot_gen_next hg.typeIs entry_gen_next ?_ (args_gen_next _))))
  show wpAny _ A.in1 (Builtin.Generator.genWake (.ref a) (.send .none)) _ _ s
  unfold Builtin.Generator.genWake
  refine wpAny_bind (wpAny_holding (wpAny_genNumber hg (wpAny_bind (wpAny_genState hgs ?_))))
  cases gs with
  | running => exact hgo.elim
  | finished => exact hgo.elim
  | _ =>
    refine wpAny_bind (wpAny_roomToWake hl hroom ?_)
    show wpAny _ A.in1 (.resume g (.send .none) [] _) _ _ s
    refine wpAny_resumeO hgs hgo (fun e s₁ he => (hq e s₁ he).1) fun e s₁ he => ?_
    cases e with
    | ret x =>
      cases x with
      | error x => exact absurd rfl ((hq _ _ he).2 x)
      | ok r =>
        obtain ⟨hr, hp⟩ := hP r s₁ he
        have hres : End.result (.ret (.ok r)) = .returned .none := by
          rcases hr with hr | hr <;> rw [hr] <;> rfl
        first | rw [hres] | simp only [hres]
        show wpAny _ A.in1 (newExc (.type "StopIteration") [] >>= _) _ _ _
        refine wpAny_bind ?_
        simp only [newExc, newTuple]
        refine wpAny_bind (wpAny_newObj_type ?_ (by size_fits))
        refine wpAny_bind (m := firstArgMember _ _) (wpAny_of_eq (a := Value.none) (by first | rfl | (simp only [firstArgMember]; rfl)) ?_)
        refine wpAny_newObj_type ?_ (by size_fits)
        simp only [raiseNew]
        refine wpAny_bind (wpAny_bind (wpAny_handled ?_))
        first | rw [show A.in1.handled = none from hh] | rw [hh]
        refine wpAny_throw ?_
        refine wpAny_bind (wpAny_isInstance (T := "StopIteration") (b := true) ⟨_, Heap.get?_push_size _ rfl, rfl⟩ isSubtype_stop ?_)
        exact wpAny_pure (hp _ fun b o hb => Heap.get?_push_of_some _ (Heap.get?_push_of_some _ hb))
    | susp v gd l k c p fs => exact wpAny_pure ⟨v, rfl, wpAny_pure (hY v gd l k c p fs s₁ he)⟩
end DL

set_option maxHeartbeats 2000000
/-! A generator def of one form: a statement, then a for over a tuple that yields where a test holds. Its stretches. -/
namespace DL
open PySem PySem.Spec PyProof.Rows L2 GenW
def atom : D → Bool
  | .non => true
  | .bl _ => true
  | .int _ => true
  | .str _ => true
  | _ => false
def flatT : D → Bool
  | .tup xs => xs.all atom
  | d => atom d
def envA (de : Env') : Env' := de.map fun o => o.bind fun d => if atom d then some d else none
abbrev rho0 : Rho := ⟨[], fun _ => False⟩
def Grow (H H' : Hp) : Prop := ∀ a o, H a = some o → H' a = some o
theorem Grow.refl (H : Hp) : Grow H H := fun _ _ h => h
theorem Grow.trans {H1 H2 H3 : Hp} (a : Grow H1 H2) (b : Grow H2 H3) : Grow H1 H3 := fun c o h => b c o (a c o h)
section
variable {g : G} {rho rho' : Rho} {H H' : Hp}
theorem Ext.grow (e : Ext rho H rho' H') (h : rho.l = []) : Grow H H' := fun a o q => e.keep a o (by rw [h]; simp) q
theorem off0 (a : Addr) : rho0.Off a := ⟨by simp, id⟩
theorem sim0 : Sim g rho0 [] H := ⟨rfl, fun i j a h => by simp at h, fun i o h => by simp at h, fun i a h => by simp at h, fun a h => h.elim, fun i a h => by simp at h⟩
theorem rp_atom {d : D} {v : V} (hd : atom d = true) (r : Rp g rho H d v) : Rp g rho' H' d v := by
  cases d with
  | non => rw [r.non_]; exact Rp.non'
  | bl b => rw [r.bl_]; exact Rp.bl'
  | int i => rw [r.int_]; exact Rp.int'
  | str x => rw [r.str_]; exact Rp.str'
  | _ => cases hd
theorem rpL_atom : ∀ {xs : List D} {vs : List V}, xs.all atom = true → RpL g rho H xs vs → RpL g rho' H' xs vs
  | [], vs, _, r => by rw [r.inv0]; exact RpL.nil
  | x :: xs, vs, h, r => by
    rw [List.all_cons, Bool.and_eq_true] at h
    obtain ⟨v, w, rfl, r1, r2⟩ := r.inv
    exact RpL.cons (rp_atom h.1 r1) (rpL_atom h.2 r2)
theorem rp_flat {d : D} {v : V} (hd : flatT d = true) (r : Rp g rho H d v) (k : ∀ b vs, H b = some (.tup vs) → rho.Off b → H' b = some (.tup vs) ∧ rho'.Off b) : Rp g rho' H' d v := by
  cases d with
  | tup xs =>
    obtain ⟨a, vs, rfl, t, l⟩ := r.tup_
    unfold Rp
    exact ⟨a, vs, rfl, k a vs t.1 t.2, rpL_atom hd l⟩
  | _ => exact rp_atom hd r
theorem rpL_flat : ∀ {xs : List D} {vs : List V}, xs.all flatT = true → RpL g rho H xs vs → (∀ b vs, H b = some (.tup vs) → rho.Off b → H' b = some (.tup vs) ∧ rho'.Off b) → RpL g rho' H' xs vs
  | [], vs, _, r, _ => by rw [r.inv0]; exact RpL.nil
  | x :: xs, vs, h, r, k => by
    rw [List.all_cons, Bool.and_eq_true] at h
    obtain ⟨v, w, rfl, r1, r2⟩ := r.inv
    exact RpL.cons (rp_flat h.1 r1 k) (rpL_flat h.2 r2 k)
theorem env_atoms {de : Env'} {sg : St} (E : EnvR g rho H de sg) : EnvR g rho' H' (envA de) sg := by
  refine ⟨by unfold envA; rw [List.length_map]; exact E.len, fun i d hd => ?_⟩
  unfold envA at hd
  rw [List.getElem?_map] at hd
  cases q : de[i]? with
  | none => rw [q] at hd; cases hd
  | some o =>
    cases o with
    | none => rw [q] at hd; cases hd
    | some y =>
      rw [q] at hd
      have hd' : (if atom y then some y else none) = some d := Option.some.inj hd
      split at hd'
      · rename_i ha
        cases hd'
        obtain ⟨v, h1, h2⟩ := E.at_ i _ q
        exact ⟨v, h1, rp_atom ha h2⟩
      · cases hd'
end
/-- small things alone -/
def Atm (de : Env') : Prop := ∀ (i : Nat) (d : D), de[i]? = some (some d) → atom d = true
theorem envA_atm (de : Env') : Atm (envA de) := fun i d hd => by
  unfold envA at hd
  rw [List.getElem?_map] at hd
  cases q : de[i]? with
  | none => rw [q] at hd; cases hd
  | some o =>
    cases o with
    | none => rw [q] at hd; cases hd
    | some y =>
      rw [q] at hd
      have hd' : (if atom y then some y else none) = some d := Option.some.inj hd
      split at hd'
      · rename_i ha
        cases hd'
        exact ha
      · cases hd'
theorem kill_atm {de : Env'} (h : Atm de) : ∀ ks : List Nat, Atm (kill de ks)
  | [] => h
  | k :: ks => fun i d hd => by
    unfold kill at hd
    by_cases q : i = k
    · subst q
      rw [List.getElem?_set] at hd
      simp at hd
    · rw [List.getElem?_set_ne (fun z => q z.symm)] at hd
      exact kill_atm h ks i d hd
theorem atm_env {g : G} {rho rho' : Rho} {H H' : Hp} {de : Env'} {sg : St} (E : EnvR g rho H de sg) (h : Atm de) : EnvR g rho' H' de sg :=
  ⟨E.len, fun i d hd => let ⟨v, h1, h2⟩ := E.at_ i d hd; ⟨v, h1, rp_atom (h i d hd) h2⟩⟩
/-- what is handed out -/
noncomputable def gItems (Gt : GD) (t : Env' → Hh → Rs Bool) (fE : Env' → Hh → Rs D) (ks : List Nat) : List D → Env' → Option (List D)
  | [], _ => some []
  | x :: xs, de => match Gt x de [] with
    | some (de1, []) => (match t (envA de1) [] with
      | .ok false [] => gItems Gt t fE ks xs (kill (envA de1) ks)
      | .ok true [] => (match fE (envA de1) [] with
        | .ok (.tup ys) [] => if ys.all atom then (gItems Gt t fE ks xs (kill (envA de1) ks)).map (.tup ys :: ·) else none
        | _ => none)
      | _ => none)
    | _ => none
abbrev noW : WX := fun _ _ _ _ => False
abbrev gBody (test elt : Expr) (yp ep ip : Pos) : List Stmt := [.If test [.Expr (.Yield (some elt) yp) ep] [] ip]
abbrev gCode (tgt : Expr) (it : Addr) (test elt : Expr) (yp ep ip : Pos) (env : Env) : Code := .forLoop tgt (.ref it) (gBody test elt yp ep ip) [] env
section
variable {g : G} {X : Cx} {A : Around} {Φ : End → Shared → Prop} {fs : List Frame} {tgt test elt : Expr} {yp ep ip : Pos} {Gt : GD} {is : List Nat} {t : Env' → Hh → Rs Bool} {fE : Env' → Hh → Rs D} {ks : List Nat} {it a0 : Addr} {xs : List D} {vs : List V} {pins : List (Addr × Obj)}
/-- a sleep's facts -/
structure Yl (g : G) (X : Cx) (pins : List (Addr × Obj)) (it a0 : Addr) (H : Hp) (j : Nat) (de : Env') (y : List D) (v : Value) (s1 : Shared) (σ1 : St) (H1 : Hp) : Prop where
  inv : Inv X pins σ1 H1 s1
  iter : s1.heap.IsTupleIter it a0 j
  free : H1 it = none
  grow : Grow H H1
  env : EnvR g rho0 H1 de σ1
  atm : Atm de
  val : ∃ x, RelV x v ∧ Rp g rho0 H1 (.tup y) x
theorem loop_seg (cx : Cok g X noW) (hxe : ∀ e s, ¬ X.xe e s) (hG : DG g X noW tgt Gt is) (hT : DT g X noW test t) (hE : DE g X noW elt fE) (hco : X.env.scope.isCoroutine = false) (hi : interactive X.env = false)
    (hover : A.over (gCode tgt it test elt yp ep ip X.env) fs = X.A) (hsp : splitAtGen fs = none) :
    ∀ (items : List D) (j : Nat) (de : Env') (ys : List D) (s : Shared) (σ : St) (H : Hp), xs.drop j = items → gItems Gt t fE ks items de = some ys → Inv X pins σ H s → s.heap.IsTupleIter it a0 j → FpOk X pins H it → H a0 = some (.tup vs) → RpL g rho0 H xs vs → xs.all flatT = true → EnvR g rho0 H de σ →
      (∀ s1 σ1 H1, ys = [] → Inv X pins σ1 H1 s1 → Grow H H1 → One (model X.prog X.w) A Φ (.block [] X.env) (.pure (.done .next)) fs s1) →
      (∀ y zs k l p v s1 σ1 H1 j1 de1, ys = .tup y :: zs → y.all atom = true → gItems Gt t fE ks (xs.drop j1) de1 = some zs → Yl g X pins it a0 H j1 de1 y v s1 σ1 H1 →
        (∀ Φ' s'', One (model X.prog X.w) A Φ' (gCode tgt it test elt yp ep ip X.env) ((model X.prog X.w).den (gCode tgt it test elt yp ep ip X.env)) fs s'' → One (model X.prog X.w) A Φ' (gCode tgt it test elt yp ep ip X.env) (k (.send .none)) fs s'') →
        Φ (.susp v false l k (gCode tgt it test elt yp ep ip X.env) p fs) s1) →
      One (model X.prog X.w) A Φ (gCode tgt it test elt yp ep ip X.env) ((model X.prog X.w).den (gCode tgt it test elt yp ep ip X.env)) fs s := by
  have T : Turn X.prog X.w X.K tgt (Itt X.K a0) [it] it (fun i h => h.IsTupleIter it a0 i) := turn_tuple a0 it
  intro items
  induction items with
  | nil =>
    intro j de ys s σ H hj hys I st fp ha r hfl E hend hyield
    have hys' : ys = [] := (Option.some.inj hys).symm
    have hl : vs.length ≤ j := by
      rw [← r.length]
      exact List.drop_eq_nil_iff.mp hj
    refine one_forLoop ?_
    rw [hover]
    refine wpAny_mono (T.done X rfl rfl rfl cx.calm j pins s σ H (fun _ _ => False) I (fun b hb => by rw [List.mem_singleton.mp hb]; exact fp) st ⟨vs, SqT.of ha, hl⟩) (fun rr s1 ⟨hr, I1⟩ => ?_) fun _ _ h => h
    subst hr
    exact one_block0 (hend s1 σ H hys' I1 (Grow.refl H))
  | cons x items ih =>
    intro j de ys s σ H hj hys I st fp ha r hfl E hend hyield
    obtain ⟨hx, hj', hlt⟩ := drop_cons hj
    obtain ⟨v0, hv0, rv0⟩ := r.get hx
    refine one_forLoop ?_
    rw [hover]
    refine wpAny_mono (T.item X rfl rfl rfl cx.calm j pins s σ H (fun _ _ => False) I (fun b hb => by rw [List.mem_singleton.mp hb]; exact fp) st ⟨vs, v0, SqT.of ha, hv0⟩) (fun rr s1 ⟨u, hr, h1⟩ => ?_) fun _ _ h => h
    subst hr
    refine wpAny_mono h1 (fun _ s2 ⟨x2, H2, I2, r2, ⟨eH, y2⟩, st2, fr2⟩ => ?_) fun _ _ h => h
    subst eH
    have ex := y2 vs (SqT.of ha)
    rw [hv0] at ex
    cases ex
    have I2' := I2.pinned (fp := [it]) (fun b hb => by rw [List.mem_singleton.mp hb]; exact fp) (T.obj _ _ st2)
    unfold gItems at hys
    cases q1 : Gt x de [] with
    | none => rw [q1] at hys; cases hys
    | some pr =>
      obtain ⟨de1, h1'⟩ := pr
      rw [q1] at hys
      cases h1' with
      | cons _ _ => cases hys
      | nil =>
        refine wpAny_mono ((hG.pg cx).run _ s2 σ H2 v0 u (fun σ' H' => ∃ rho', Sim g rho' [] H' ∧ Ext rho0 H2 rho' H' ∧ EnvR g rho' H' de1 σ') I2' r2 ⟨rho0, x, de, [], de1, [], sim0, E, rv0, q1, fun rho' H' sg' S' e' E' _ => ⟨rho', S', e', E'⟩⟩) (fun _ s3 h3 => ?_) fun e s' h => absurd h (hxe e s')
        obtain ⟨σ3, H3, I3, rho3, S3, e3, E3⟩ := h3
        have g3 : Grow H2 H3 := e3.grow rfl
        have E3' : EnvR g rho0 H3 (envA de1) σ3 := env_atoms E3
        refine one_execs_cons (one_If ?_)
        rw [hover]
        have ht : okT g noW t σ3 H3 fun b H4 => ∃ h4, t (envA de1) [] = .ok b h4 ∧ (h4 = [] → Grow H3 H4) := by
          refine ⟨rho0, envA de1, [], sim0, E3', ?_⟩
          cases q2 : t (envA de1) [] with
          | no => simp only [q2] at hys; cases hys
          | ex y h' => simp only [q2] at hys; cases hys
          | ok b h4 =>
            intro rho4 H4 b' S4 e4 hb
            cases (show b = b' from hb)
            exact ⟨h4, rfl, fun _ => e4.grow rfl⟩
        refine wpAny_mono ((hT.pt cx).run _ s3 σ3 H3 _ I3 ht) (fun b s4 h4 => ?_) fun e s' h => absurd h (hxe e s')
        obtain ⟨H4, I4, h4', q2, gq⟩ := h4
        have unp : ∀ {σ' : St} {H' : Hp} {s' : Shared}, Inv X (pins ++ pinsAt [it] s2.heap) σ' H' s' → Inv X pins σ' H' s' ∧ s'.heap.IsTupleIter it a0 (j + 1) ∧ H' it = none := fun {σ' H' s'} J => by
          obtain ⟨o, e, d⟩ := T.obj _ _ st2 it (by simp)
          have pm := J.pin (it, o) (List.mem_append_right _ (List.mem_append_right _ (mem_pinsAt (by simp) e)))
          refine ⟨J.unpinned, T.keep _ _ _ st2 fun b hb o' e' => ?_, pm.2.1⟩
          rw [List.mem_singleton.mp hb] at e' ⊢
          rw [e] at e'; cases e'
          exact pm.1
        cases b with
        | false =>
          rw [if_neg Bool.false_ne_true]
          simp only [q2] at hys
          cases h4' with
          | cons _ _ => cases hys
          | nil =>
            have g4 := gq rfl
            refine one_execs_nil (one_execs_nil (one_again rfl ?_))
            obtain ⟨J, jt, jf⟩ := unp I4
            have gg := g3.trans g4
            refine ih (j + 1) _ ys s4 σ3 H4 hj' hys J jt ⟨jf, fp.2⟩ (gg _ _ ha) (rpL_flat hfl r fun b vs hb _ => ⟨gg _ _ hb, off0 b⟩) hfl (EnvR.kill (by
              have := env_atoms (rho' := rho0) (H' := H4) E3
              exact this) ks) (fun s5 σ5 H5 hz I5 g5 => hend s5 σ5 H5 hz I5 (gg.trans g5)) fun y zs k l p v s5 σ5 H5 j5 de5 hz ha5 hi5 Y5 hk5 => hyield y zs k l p v s5 σ5 H5 j5 de5 hz ha5 hi5 ⟨Y5.inv, Y5.iter, Y5.free, gg.trans Y5.grow, Y5.env, Y5.atm, Y5.val⟩ hk5
        | true =>
          rw [if_pos rfl]
          simp only [q2] at hys
          cases h4' with
          | cons _ _ => cases hys
          | nil =>
            have g4 := gq rfl
            have E4 : EnvR g rho0 H4 (envA de1) σ3 := env_atoms E3
            cases q3 : fE (envA de1) [] with
            | no => simp only [q3] at hys; cases hys
            | ex y h' => simp only [q3] at hys; cases hys
            | ok d h5 =>
              simp only [q3] at hys
              cases d with
              | tup y =>
                cases h5 with
                | cons _ _ => cases hys
                | nil =>
                  have hys2 : (if y.all atom = true then (gItems Gt t fE ks items (kill (envA de1) ks)).map (D.tup y :: ·) else none) = some ys := hys
                  by_cases hya : y.all atom = true
                  · rw [if_pos hya] at hys2
                    cases q4 : gItems Gt t fE ks items (kill (envA de1) ks) with
                    | none => rw [q4] at hys2; cases hys2
                    | some zs =>
                      rw [q4] at hys2
                      have hyz : ys = .tup y :: zs := (Option.some.inj hys2).symm
                      refine one_execs_cons (one_Yield hsp ?_ hco hi)
                      rw [hover]
                      have he : okE g noW fE σ3 H4 fun x5 H5 => Grow H4 H5 ∧ Rp g rho0 H5 (.tup y) x5 := by
                        refine ⟨rho0, envA de1, [], sim0, E4, ?_⟩
                        rw [q3]
                        intro rho5 H5 x5 S5 e5 r5
                        refine ⟨e5.grow rfl, rp_flat (d := .tup y) hya r5 fun b vs hb _ => ⟨hb, off0 b⟩⟩
                      refine wpAny_mono ((hE.pe cx).run _ s4 σ3 H4 _ I4 he) (fun v s5 h5 => ?_) fun e s' h => absurd h (hxe e s')
                      obtain ⟨x5, H5, I5, r5, g5, rp5⟩ := h5
                      intro k l p hk
                      obtain ⟨J, jt, jf⟩ := unp I5
                      refine hyield y zs k l p v s5 σ3 H5 (j + 1) (kill (envA de1) ks) hyz hya (by rw [hj']; exact q4) ⟨J, jt, jf, (g3.trans g4).trans g5, EnvR.kill (env_atoms E3) ks, kill_atm (envA_atm _) ks, x5, r5, rp5⟩ fun Φ' s'' h => ?_
                      exact hk Φ' s'' (one_execs_nil (one_execs_nil (one_again rfl h)))
                  · rw [if_neg hya] at hys2; cases hys2
              | _ => cases hys
end
end DL

set_option maxHeartbeats 2000000
/-! Waking a generator: its frame over the heap of its caller as it stands then. -/
namespace DL
open PySem PySem.Spec PyProof.Rows L2 GenW
/-- the context of a generator's body where no exception is wanted; L: its frame -/
abbrev gxL (P : Program) (w : World) (K : PySem.W.Frag) (mg : Str → Option Value) (base : Heap) (N : List Str) (qual : Str) (scope : Scope) (f : Addr) (cd : Value) (A : Around) (outer : List Env) (L : Addr) (s : Shared) (H : Hp) : Cx where
  prog := P
  w := w
  K := K
  mg := mg
  base := base
  A := A.deeper (envOfC qual scope L f cd)
  N := N
  s_0 := s
  H_0 := H
  env := envOfC qual scope L f cd
  outer := outer
  stack := envOfC qual scope L f cd :: outer
  ex := []
  calm := true
  fn := fun _ => true
  pn := []
  xe := fun _ _ => False
theorem no_xe {X : Cx} (u : Value) (s' : Shared) : ¬ XE X noW u s' := fun ⟨_, _, _, _, _, _, _, _, _, _, _, _, _, _, _, _, w⟩ => w
theorem cok_gx {g : G} {P : Program} {w : World} {mg : Str → Option Value} {base : Heap} {N ps : List Str} {qual : Str} {scope : Scope} {f : Addr} {cdv : Value} {A : Around} {outer : List Env} {L : Addr} {s : Shared} {H : Hp} (S : GScope N ps scope) (hbl : ∀ x : Str, bnames.contains x = true → mg x = none) {k : Nat} (hr : Room k (A.deeper (envOfC qual scope L f cdv))) (hgd : A.guards = some []) :
    Cok g (gxL P w g.K mg base N qual scope f cdv A outer L s H) noW :=
  ⟨rfl, rfl, hr.mono (Nat.zero_le _), fun u s' x => (no_xe u s' x).elim, hbl, S.nd, PassesOwn.never, fun _ _ _ _ _ h => h, hgd⟩
section
variable {P : Program} {w : World} {K : PySem.W.Frag} {mg : Str → Option Value} {base : Heap} {N : List Str} {qual : Str} {scope : Scope} {f : Addr} {cd : Value} {A : Around} {outer : List Env} {s s1 : Shared} {H H' : Hp} {σ : L2.St}
theorem inv_gx {E : XK} {pins : List (Addr × Obj)} (I : Inv (gcxOf P w K mg base N qual scope f cd A outer s H E []) pins σ H' s1) : Inv (gxL P w K mg base N qual scope f cd A outer s.heap.objs.size s H) pins σ H' s1 :=
  ⟨⟨I.ok.mod, I.ok.kind, I.ok.glob, I.ok.blt, I.ok.above, I.ok.inj, I.ok.has, I.ok.cab, I.ok.hd, I.ok.frames, I.ok.stk, I.ok.exf, I.ok.bs, I.ok.bsz, I.ok.noex, I.ok.exfs, I.ok.funs, I.ok.frf⟩, I.os, I.bare, I.base, I.loc, I.cell, I.free, I.freeC, I.pin, I.hok, I.len⟩
end
/-! ### a heap cut -/
def cutH (L : Nat) (h : Heap) : Heap := ⟨h.objs.take L, h.life⟩
def cut (L : Nat) (s : Shared) : Shared := { s with heap := cutH L s.heap }
theorem cut_size {L : Nat} {s : Shared} (h : L ≤ s.heap.objs.size) : (cut L s).heap.objs.size = L := by
  show (s.heap.objs.take L).size = L
  simp only [Array.take_eq_extract, Array.size_extract]; omega
theorem take_get {α : Type} {xs : Array α} {L a : Nat} (h : a < L) : (xs.take L)[a]? = xs[a]? := by
  simp only [Array.take_eq_extract, Array.getElem?_extract]
  by_cases q : a < xs.size
  · rw [if_pos (by omega)]; simp
  · rw [if_neg (by omega), Array.getElem?_eq_none (by omega)]
theorem cut_get {L : Nat} {s : Shared} {a : Addr} (h : a < L) : (cut L s).heap.get? a = s.heap.get? a := by
  have e : (s.heap.objs.take L)[a]? = s.heap.objs[a]? := take_get h
  show (match (s.heap.objs.take L)[a]? with | some ⟨_, _, .freed, _⟩ => none | o => o) = (match s.heap.objs[a]? with | some ⟨_, _, .freed, _⟩ => none | o => o)
  rw [e]
theorem cut_of {L : Nat} {s : Shared} {a : Addr} {o : Obj} (hL : L ≤ s.heap.objs.size) (h : (cut L s).heap.get? a = some o) : a < L ∧ s.heap.get? a = some o := by
  have hl := Heap.lt_size h
  rw [cut_size hL] at hl
  exact ⟨hl, by rw [← cut_get hl]; exact h⟩
/-! ### what the generator knows of the heap -/
abbrev Tb := Addr → Option (List V)
def TupOk (h : Heap) (a : Addr) (vs : List V) : Prop := vs.length ≤ sizeLine ∧ ∃ its : List Value, Vals vs its ∧ IsTup h a its.toArray
def trkG (TT : Tb) (L it : Addr) (h : Heap) : Hp := fun a => if a = L then none else if a = it then none else match TT a with
  | some vs => some (.tup vs)
  | none => if L ≤ a then (match h.get? a with | some o => some (.ext fun h' => h'.get? a = some o) | none => none) else none
/-- what never changes: fs, the callers' frames -/
structure Stc (TT : Tb) (L it : Addr) (base : Heap) (outer : List Env) : Prop where
  fl : ∀ b ∈ frs outer, b < L
  tl : TT L = none
  ti : TT it = none
  tb : ∀ b o, base.get? b = some o → TT b = none
  tf : ∀ b ∈ frs outer, TT b = none
  bsz : base.objs.size ≤ L
  lt : L < it
/-- what a sleep keeps -/
structure Wk (TT : Tb) (L it : Addr) (base : Heap) (outer : List Env) (s s' : Shared) : Prop where
  os : s'.os = s.os
  bare : AllBare s'.gens
  fr : ∀ o, s.heap.get? L = some o → s'.heap.get? L = some o
  it : ∀ o, s.heap.get? it = some o → s'.heap.get? it = some o
  tup : ∀ a vs, TT a = some vs → TupOk s'.heap a vs
  bas : ∀ b o, base.get? b = some o → s'.heap.get? b = some o
  funs : s'.heap.FunFrames base outer
/-- what a stretch does, seen from outside -/
structure Lf (TT : Tb) (L it : Addr) (outer : List Env) (s s' : Shared) : Prop where
  os : s'.os = s.os
  bare : AllBare s'.gens
  keep : ∀ b o, s.heap.get? b = some o → b ≠ L → b ≠ it → TT b = none → b ∉ frs outer → s'.heap.get? b = some o
  slot : ∀ b o, s.heap.get? b = some o → b ≠ L → b ≠ it → TT b = none → b ∈ frs outer → ∃ sl, s'.heap.get? b = some { o with slots := sl }
  tup : ∀ a vs, TT a = some vs → TupOk s'.heap a vs
/-- the generator's frame and its iterator stand -/
def Priv (L it : Addr) (s' : Shared) : Prop := (∃ o, s'.heap.get? L = some o ∧ ∀ v, o.data ≠ .cell v) ∧ ∃ o, s'.heap.get? it = some o ∧ ∀ v, o.data ≠ .cell v
/-- the value handed out: a tuple of small things, known or new -/
def LVal (g : G) (TT : Tb) (y : List D) (v : Value) (s s' : Shared) : Prop := ∃ b vs, v = .ref b ∧ y.all atom = true ∧ (TT b = some vs ∨ s.heap.get? b = none) ∧ TupOk s'.heap b vs ∧ RpL g rho0 (fun _ => none) y vs
/-- how the rest of the run goes -/
def LaterΦ (g : G) (P : Program) (w : World) (TT : Tb) (L it : Addr) (base : Heap) (outer : List Env) (A : Around) : List D → Shared → End → Shared → Prop
  | [], s, e, s' => e = .ret (.ok (.ret .none)) ∧ Lf TT L it outer s s'
  | .tup y :: ys, s, e, s' => ∃ v l k c p fs, e = .susp v false l k c p fs ∧ splitAtGen fs = none ∧ fs.any Frame.guarded = false ∧ Lf TT L it outer s s' ∧ Priv L it s' ∧ LVal g TT y v s s' ∧
      ∀ s2, Wk TT L it base outer s' s2 → One (model P w) A (LaterΦ g P w TT L it base outer A ys s2) c (k (.send .none)) fs s2
  | _ :: _, _, _, _ => False
section
variable {TT : Tb} {L it : Addr} {base : Heap} {outer : List Env} {h : Heap}
theorem trkG_tup (C : Stc TT L it base outer) {a : Addr} {vs : List V} (e : TT a = some vs) : trkG TT L it h a = some (.tup vs) := by
  have h1 : a ≠ L := fun z => by rw [z, C.tl] at e; cases e
  have h2 : a ≠ it := fun z => by rw [z, C.ti] at e; cases e
  unfold trkG
  rw [if_neg h1, if_neg h2, e]
theorem trkG_L : trkG TT L it h L = none := by unfold trkG; rw [if_pos rfl]
theorem trkG_it : trkG TT L it h it = none := by
  unfold trkG
  by_cases q : it = L
  · rw [if_pos q]
  · rw [if_neg q, if_pos rfl]
theorem trkG_lo {a : Addr} (e : TT a = none) (hl : a < L) : trkG TT L it h a = none := by
  unfold trkG
  by_cases h1 : a = L
  · rw [if_pos h1]
  · rw [if_neg h1]
    by_cases h2 : a = it
    · rw [if_pos h2]
    · rw [if_neg h2, e]
      show (if L ≤ a then _ else _) = _
      rw [if_neg (Nat.not_le.mpr hl)]
theorem trkG_hi {a : Addr} {o : Obj} (h1 : a ≠ L) (h2 : a ≠ it) (e : TT a = none) (hl : L ≤ a) (ho : h.get? a = some o) : trkG TT L it h a = some (.ext fun h' => h'.get? a = some o) := by
  unfold trkG
  rw [if_neg h1, if_neg h2, e]
  show (if L ≤ a then _ else _) = _
  rw [if_pos hl, ho]
theorem trkG_fresh {a : Addr} (e : TT a = none) (ho : h.get? a = none) : trkG TT L it h a = none := by
  by_cases hl : a < L
  · exact trkG_lo e hl
  · unfold trkG
    by_cases h1 : a = L
    · rw [if_pos h1]
    · rw [if_neg h1]
      by_cases h2 : a = it
      · rw [if_pos h2]
      · rw [if_neg h2, e, ho]
        show (if L ≤ a then _ else _) = _
        split <;> rfl
theorem trkG_of {a : Addr} {x : HO} (e : trkG TT L it h a = some x) : (∃ vs, TT a = some vs ∧ x = .tup vs) ∨ (TT a = none ∧ a ≠ L ∧ a ≠ it ∧ L ≤ a ∧ ∃ o, h.get? a = some o ∧ x = .ext fun h' => h'.get? a = some o) := by
  unfold trkG at e
  by_cases h1 : a = L
  · rw [if_pos h1] at e; cases e
  · rw [if_neg h1] at e
    by_cases h2 : a = it
    · rw [if_pos h2] at e; cases e
    · rw [if_neg h2] at e
      cases q : TT a with
      | some vs => rw [q] at e; exact .inl ⟨vs, rfl, (Option.some.inj e).symm⟩
      | none =>
        rw [q] at e
        have e' : (if L ≤ a then (match h.get? a with | some o => some (HO.ext fun h' => h'.get? a = some o) | none => none) else none) = some x := e
        by_cases h3 : L ≤ a
        · rw [if_pos h3] at e'
          cases q2 : h.get? a with
          | none => rw [q2] at e'; cases e'
          | some o => rw [q2] at e'; exact .inr ⟨rfl, h1, h2, h3, o, rfl, (Option.some.inj e').symm⟩
        · rw [if_neg h3] at e'; cases e'
theorem trkG_hok {P : Program} {w : World} (ht : ∀ a vs, TT a = some vs → TupOk h a vs) : HOk P w (trkG TT L it h) h := fun a x e => by
  rcases trkG_of e with ⟨vs, e1, rfl⟩ | ⟨_, _, _, _, o, e1, rfl⟩
  · exact ht a vs e1
  · exact ⟨e1, ⟨o, e1⟩, fun h1 h2 p q => q o p⟩
end
section
variable {g : G} {P : Program} {w : World} {mg : Str → Option Value} {base : Heap} {N : List Str} {qual : Str} {scope : Scope} {f : Addr} {cd : Value} {A : Around} {outer : List Env} {s0 s1 s2 : Shared} {H0 H1 : Hp} {TT : Tb} {L it : Addr} {σ : L2.St} {pins : List (Addr × Obj)}
theorem funs_cut {h : Heap} : ∀ {l : List Env}, (∀ b ∈ frs l, b < L) → h.FunFrames base l → (cutH L h).FunFrames base l
  | [], _, _ => trivial
  | env :: r, hl, hf => by
    obtain ⟨hk, ⟨M, o, hfr, hn, ho, hd⟩, hr⟩ := hf
    have hM : M < L := hl M (by unfold frs; rw [List.filterMap_cons, hfr]; exact List.mem_cons_self)
    refine ⟨hk, ⟨M, o, hfr, hn, ?_, hd⟩, funs_cut (fun b hb => hl b ?_) hr⟩
    · exact (cut_get (s := { heap := h }) hM).trans ho
    · unfold frs
      rw [List.filterMap_cons, hfr]
      exact List.mem_cons_of_mem _ hb
/-- THE REBASING: the sleeping frame over the heap as it stands at the waking -/
theorem rebase (hnc : ∀ n, cellsFrom n scope.names [] = []) (C : Stc TT L it base outer) (I : Inv (gxL P w g.K mg base N qual scope f cd A outer L s0 H0) pins σ H1 s1) (W : Wk TT L it base outer s1 s2) :
    L < s2.heap.objs.size ∧ Inv (gxL P w g.K mg base N qual scope f cd A outer L (cut L s2) (trkG TT L it s2.heap)) [] σ (trkG TT L it s2.heap) s2 := by
  obtain ⟨m, hn, hloc⟩ := I.loc
  obtain ⟨oL, es, ep, hoL, hr⟩ := id hn
  have hoL2 := W.fr oL hoL
  have hlt : L < s2.heap.objs.size := Heap.lt_size hoL2
  have hle : L ≤ s2.heap.objs.size := Nat.le_of_lt hlt
  have hns : s2.heap.Ns L m := ⟨oL, es, ep, hoL2, hr⟩
  have nc : ∀ x c, (envOfC qual scope L f cd).cells.lookup x ≠ some c := fun x c e => by
    have e' : (cellsFrom (L + 1) scope.names []).lookup x = some c := e
    rw [hnc] at e'
    cases e'
  have lo : ∀ b, b < L → TT b = none → trkG TT L it s2.heap b = none := fun b hb e => trkG_lo e hb
  refine ⟨hlt, ⟨I.ok.mod, I.ok.kind, rfl, rfl, Nat.le_of_eq (cut_size hle), fun x y c h1 => absurd h1 (nc x c), fun x hx => ?_, fun x c _ h => absurd h (nc x c), I.ok.hd, I.ok.frames, .inr ⟨rfl, rfl⟩, fun b hb => absurd hb (by simp), fun b o e => ?_, ?_, fun b o e => by simp, fun b hb => absurd hb (by simp), funs_cut C.fl W.funs, fun b hb => lo b (C.fl b hb) (C.tf b hb)⟩,
    rfl, W.bare, ⟨fun b o e _ _ _ => (cut_of hle e).2, fun b o e _ _ _ => ⟨o.slots, (cut_of hle e).2⟩, fun _ _ _ n _ => n, fun b o e _ => ⟨o, (cut_of hle e).2⟩, fun _ _ q => q, fun _ _ _ q => q, fun b ps q => ⟨#[], by rw [Array.append_empty]; exact q⟩⟩, ⟨m, hns, fun i x v e1 e2 e3 => ?_⟩, fun x c e => absurd e (nc x c), trkG_L, fun x c e => absurd e (nc x c), fun p hp => absurd hp (by simp), trkG_hok W.tup, I.len⟩
  · obtain ⟨c, e⟩ := I.ok.has x hx
    exact absurd e (nc x c)
  · have hb : b < L := Nat.lt_of_lt_of_le (Heap.lt_size e) C.bsz
    exact ⟨(cut_get hb).trans (W.bas b o e), lo b hb (C.tb b o e)⟩
  · rw [cut_size hle]; exact C.bsz
  · obtain ⟨u, r, l⟩ := hloc i x v e1 e2 e3
    refine ⟨u, r, ?_⟩
    rcases l with l | ⟨_, c, e, _⟩
    · exact .inl l
    · exact absurd e (nc x c)
theorem fpok_it (hnc : ∀ n, cellsFrom n scope.names [] = []) (C : Stc TT L it base outer) (hle : L ≤ s2.heap.objs.size) : FpOk (gxL P w g.K mg base N qual scope f cd A outer L (cut L s2) (trkG TT L it s2.heap)) [] (trkG TT L it s2.heap) it :=
  ⟨trkG_it, Nat.ne_of_gt C.lt, fun hb => Nat.lt_irrefl _ (Nat.lt_trans C.lt (C.fl it hb)), .inr (by rw [cut_size hle]; exact Nat.le_of_lt C.lt), (fun x c e => by
    have e' : (cellsFrom (L + 1) scope.names []).lookup x = some c := e
    rw [hnc] at e'
    cases e'), fun p hp => absurd (show p ∈ ([] : List (Addr × Obj)) from hp) (by simp)⟩
/-- what a stretch in the rebased context looks like from outside -/
theorem lf_of (C : Stc TT L it base outer) (hle : L ≤ s1.heap.objs.size) (I : Inv (gxL P w g.K mg base N qual scope f cd A outer L (cut L s1) (trkG TT L it s1.heap)) pins σ H1 s2) (gr : Grow (trkG TT L it s1.heap) H1) : Lf TT L it outer s1 s2 := by
  have up : ∀ b o, s1.heap.get? b = some o → b ≠ L → b ≠ it → TT b = none → (L ≤ b → s2.heap.get? b = some o) := fun b o e h1 h2 h3 hl => by
    have q := I.hok b _ (gr b _ (trkG_hi h1 h2 h3 hl e))
    exact q.1
  refine ⟨I.os, I.bare, fun b o e h1 h2 h3 h4 => ?_, fun b o e h1 h2 h3 h4 => ?_, fun a vs e => I.hok a _ (gr a _ (trkG_tup C e))⟩
  · by_cases hl : L ≤ b
    · exact up b o e h1 h2 h3 hl
    · have hb : b < L := Nat.not_le.mp hl
      exact I.base.keep b o ((cut_get hb).trans e) (trkG_lo h3 hb) h4 (by simp)
  · have hb : b < L := C.fl b h4
    exact I.base.slot b o ((cut_get hb).trans e) (trkG_lo h3 hb) h4 (by simp)
theorem priv_of {X : Cx} {j : Nat} {a0 : Addr} (hL : X.env.locals = L) (I : Inv X pins σ H1 s2) (st : s2.heap.IsTupleIter it a0 j) : Priv L it s2 := by
  obtain ⟨m, ⟨o, es, ep, ho, hd, _⟩, _⟩ := I.loc
  obtain ⟨oi, q1, q2, q3⟩ := st
  rw [hL] at ho
  exact ⟨⟨o, ho, fun v z => by rw [hd] at z; cases z⟩, oi, q1, fun v z => by rw [q3] at z; cases z⟩
end
end DL

set_option maxHeartbeats 2000000
/-! A generator def: its first stretch and the later ones. -/
namespace DL
open PySem PySem.Spec PyProof.Rows L2 GenW
section
variable {g : G} {P : Program} {w : World} {mg : Str → Option Value} {base : Heap} {N ps : List Str} {qual : Str} {scope : Scope} {f : Addr} {cd : Value} {A : Around} {outer : List Env} {L it a0 : Addr} {TT : Tb}
  {tgt test elt : Expr} {yp ep ip : Pos} {Gt : GD} {is : List Nat} {t : Env' → Hh → Rs Bool} {fE : Env' → Hh → Rs D} {ks : List Nat} {fs : List Frame} {xs : List D} {vs : List V}
/-- the derivations of the loop, in every context of its frame -/
structure GDer (g : G) (P : Program) (w : World) (mg : Str → Option Value) (base : Heap) (N : List Str) (qual : Str) (scope : Scope) (f : Addr) (cd : Value) (A : Around) (outer : List Env) (L : Addr) (tgt test elt : Expr) (Gt : GD) (is : List Nat) (t : Env' → Hh → Rs Bool) (fE : Env' → Hh → Rs D) : Prop where
  hG : ∀ s H, DG g (gxL P w g.K mg base N qual scope f cd A outer L s H) noW tgt Gt is
  hT : ∀ s H, DT g (gxL P w g.K mg base N qual scope f cd A outer L s H) noW test t
  hE : ∀ s H, DE g (gxL P w g.K mg base N qual scope f cd A outer L s H) noW elt fE
theorem later_ok (S : GScope N ps scope) (hbl : ∀ x : Str, bnames.contains x = true → mg x = none) {k : Nat} (hr : Room k (A.deeper (envOfC qual scope L f cd))) (hgd : A.guards = some []) (hnc : ∀ n, cellsFrom n scope.names [] = []) (C : Stc TT L it base outer)
    (der : GDer g P w mg base N qual scope f cd A outer L tgt test elt Gt is t fE) (hi : interactive (envOfC qual scope L f cd) = false)
    (hover : A.over (gCode tgt it test elt yp ep ip (envOfC qual scope L f cd)) fs = A.deeper (envOfC qual scope L f cd)) (hsp : splitAtGen fs = none) (hg : fs.any Frame.guarded = false)
    (hkont : ∀ Φ s, Φ (.ret (.ok (.ret .none))) s → One (model P w) A Φ (.block [] (envOfC qual scope L f cd)) (.pure (.done .next)) fs s)
    (hTT : TT a0 = some vs) (hxs : RpL g rho0 (fun b => (TT b).map .tup) xs vs) (hfl : xs.all flatT = true) :
    ∀ (ys : List D) (j : Nat) (de : Env') (s0 : Shared) (H0 : Hp) (pins : List (Addr × Obj)) (s1 : Shared) (σ1 : L2.St) (H1 : Hp), gItems Gt t fE ks (xs.drop j) de = some ys → Inv (gxL P w g.K mg base N qual scope f cd A outer L s0 H0) pins σ1 H1 s1 → s1.heap.IsTupleIter it a0 j → EnvR g rho0 H1 de σ1 → Atm de →
      ∀ s2, Wk TT L it base outer s1 s2 → One (model P w) A (LaterΦ g P w TT L it base outer A ys s2) (gCode tgt it test elt yp ep ip (envOfC qual scope L f cd)) ((model P w).den (gCode tgt it test elt yp ep ip (envOfC qual scope L f cd))) fs s2 := by
  intro ys
  induction ys with
  | nil =>
    intro j de s0 H0 pins s1 σ1 H1 hit I st E atm s2 W
    obtain ⟨hlt, I2⟩ := rebase hnc C I W
    have hle := Nat.le_of_lt hlt
    obtain ⟨oi, e1, e2, e3⟩ := id st
    have st2 : s2.heap.IsTupleIter it a0 j := ⟨oi, W.it oi e1, e2, e3⟩
    have hxs' : RpL g rho0 (trkG TT L it s2.heap) xs vs := rpL_flat hfl hxs fun b us hb _ => by
      cases q : TT b with
      | none => rw [q] at hb; cases hb
      | some ws => rw [q] at hb; cases hb; exact ⟨trkG_tup C q, off0 b⟩
    refine loop_seg (X := gxL P w g.K mg base N qual scope f cd A outer L (cut L s2) (trkG TT L it s2.heap)) (pins := []) (cok_gx S hbl hr hgd) (fun _ _ h => h) (der.hG _ _) (der.hT _ _) (der.hE _ _) S.co hi hover hsp (xs.drop j) j de [] s2 σ1 (trkG TT L it s2.heap) rfl hit I2 st2 (fpok_it hnc C hle) (trkG_tup C hTT) hxs' hfl (atm_env E atm) ?_ ?_
    · intro s3 σ3 H3 _ I3 g3
      exact hkont _ s3 ⟨rfl, lf_of C hle I3 g3⟩
    · intro y zs k' l p v s3 σ3 H3 j1 de1 hyz
      cases hyz
  | cons y0 ys ih =>
    intro j de s0 H0 pins s1 σ1 H1 hit I st E atm s2 W
    obtain ⟨hlt, I2⟩ := rebase hnc C I W
    have hle := Nat.le_of_lt hlt
    obtain ⟨oi, e1, e2, e3⟩ := id st
    have st2 : s2.heap.IsTupleIter it a0 j := ⟨oi, W.it oi e1, e2, e3⟩
    have hxs' : RpL g rho0 (trkG TT L it s2.heap) xs vs := rpL_flat hfl hxs fun b us hb _ => by
      cases q : TT b with
      | none => rw [q] at hb; cases hb
      | some ws => rw [q] at hb; cases hb; exact ⟨trkG_tup C q, off0 b⟩
    refine loop_seg (X := gxL P w g.K mg base N qual scope f cd A outer L (cut L s2) (trkG TT L it s2.heap)) (pins := []) (cok_gx S hbl hr hgd) (fun _ _ h => h) (der.hG _ _) (der.hT _ _) (der.hE _ _) S.co hi hover hsp (xs.drop j) j de (y0 :: ys) s2 σ1 (trkG TT L it s2.heap) rfl hit I2 st2 (fpok_it hnc C hle) (trkG_tup C hTT) hxs' hfl (atm_env E atm) ?_ ?_
    · intro s3 σ3 H3 hz
      cases hz
    · intro y zs k' l p v s3 σ3 H3 j1 de1 hyz hya hit1 Y hk
      cases hyz
      obtain ⟨x, rx, px⟩ := Y.val
      refine ⟨v, l, k', _, p, fs, rfl, hsp, hg, lf_of C hle Y.inv Y.grow, priv_of rfl Y.inv Y.iter, ?_, fun s4 W4 => hk _ s4 (ih j1 de1 _ _ _ s3 σ3 H3 hit1 Y.inv Y.iter Y.env Y.atm s4 W4)⟩
      unfold Rp at px
      obtain ⟨b, us, rfl, ⟨tb, _⟩, lb⟩ := px
      have ev : v = .ref b := rx
      refine ⟨b, us, ev, hya, ?_, Y.inv.hok b _ tb, rpL_atom hya lb⟩
      cases q : TT b with
      | some ws =>
        have := Y.grow b _ (trkG_tup C q)
        rw [tb] at this
        cases this
        exact .inl rfl
      | none =>
        refine .inr ?_
        cases q4 : s2.heap.get? b with
        | none => rfl
        | some o =>
          exfalso
          have fL : H3 L = none := Y.inv.free
          have n1 : b ≠ L := fun z => by rw [z, fL] at tb; cases tb
          have n2 : b ≠ it := fun z => by rw [z, Y.free] at tb; cases tb
          by_cases hl : b < L
          · have := Y.inv.base.free b o ((cut_get hl).trans q4) (trkG_lo q hl) (by simp)
            rw [tb] at this; cases this
          · have := Y.grow b _ (trkG_hi n1 n2 q (Nat.not_lt.mp hl) q4)
            rw [tb] at this; cases this
/-! ### the first stretch -/
theorem Sim.grow {rho : Rho} {h : Hh} {H H' : Hp} (S : Sim g rho h H) (e : Grow H H') : Sim g rho h H' ∧ Ext rho H rho H' := by
  have x : Ext rho H rho H' := ⟨Nat.le_refl _, fun _ _ _ h => h, fun a o _ q => e a o q, fun _ _ n _ => n, fun _ h => h, fun _ _ _ h => h, fun a o q => ⟨o, e a o q⟩, fun a ob u q => e a _ q⟩
  refine ⟨⟨S.len, S.inj, fun i o q => ?_, fun i a q => ?_, fun a q => ?_, S.nh⟩, x⟩
  · have r := S.obj i o q
    cases o with
    | dead => trivial
    | lst xs => obtain ⟨a, vs, h1, h2, h3⟩ := r; exact ⟨a, vs, h1, e _ _ h2, RpL.ext x _ _ h3⟩
    | dct t kvs => obtain ⟨a, vs, o, h1, h2, h3, h4⟩ := r; exact ⟨a, vs, o, h1, e _ _ h2, h3, RpL.ext x _ _ h4⟩
    | lock t kvs => obtain ⟨a, vs, o, ob, h1, h2, h3, h4⟩ := r; exact ⟨a, vs, o, ob, h1, e _ _ h2, h3, RpL.ext x _ _ h4⟩
    | ins c fs => obtain ⟨a, dx, fvs, h1, h2, h3, h4⟩ := r; exact ⟨a, dx, fvs, h1, e _ _ h2, h3, RpF.ext x _ _ h4⟩
  · obtain ⟨o, h1, h2⟩ := S.liv i a q; exact ⟨o, e _ _ h1, h2⟩
  · obtain ⟨o, h1, h2⟩ := S.hoc a q; exact ⟨o, e _ _ h1, h2⟩
theorem Sim.off_tup {rho : Rho} {h : Hh} {H : Hp} (S : Sim g rho h H) {b : Addr} {us : List V} (e : H b = some (.tup us)) : rho.Off b := by
  refine ⟨fun hm => ?_, fun hm => ?_⟩
  · obtain ⟨i, hi⟩ := List.getElem?_of_mem hm
    obtain ⟨o, h1, h2⟩ := S.liv i b hi
    rw [e] at h1
    exact h2 us (Option.some.inj h1).symm
  · obtain ⟨o, h1, h2⟩ := S.hoc b hm
    rw [e] at h1
    exact h2 us (Option.some.inj h1).symm
/-- the plain function of the def: what it hands out -/
noncomputable def genF (kS : Env' → Hh → Sr) (fI : Env' → Hh → Rs D) (Gt : GD) (t : Env' → Hh → Rs Bool) (fE : Env' → Hh → Rs D) (ks : List Nat) (m : Nat) : List D → Hh → Rs (List D) := fun ds h => match kS (ds.map some ++ List.replicate m none) h with
  | .nx de h1 => (match fI de h1 with
    | .ok (.tup xs) h2 => if xs.all flatT = true then (match gItems Gt t fE ks xs (envA de) with | some ys => .ok ys h2 | none => .no) else .no
    | _ => .no)
  | _ => .no
/-- behind the first stretch -/
def FirstΦ (g : G) (P : Program) (w : World) (base : Heap) (outer : List Env) (A : Around) (sc : Shared) (rho : Rho) (H : Hp) (h2 : Hh) (pins : List (Addr × Obj)) (ys : List D) (e : End) (s1 : Shared) : Prop :=
  ∃ rho1 H1, Sim g rho1 h2 H1 ∧ Ext rho H rho1 H1 ∧ s1.os = sc.os ∧ AllBare s1.gens ∧ Un (frs outer) [] H H1 sc.heap s1.heap ∧ HOk P w H1 s1.heap ∧ (∀ p ∈ pins, s1.heap.get? p.1 = some p.2 ∧ H1 p.1 = none) ∧
    match ys with
    | [] => e = .ret (.ok (.ret .none))
    | y0 :: zs => ∃ y v x l k c p fs TT it, y0 = .tup y ∧ e = .susp v false l k c p fs ∧ splitAtGen fs = none ∧ fs.any Frame.guarded = false ∧ Stc TT sc.heap.objs.size it base outer ∧ (∀ a vs, TT a = some vs → H1 a = some (.tup vs)) ∧
        H1 sc.heap.objs.size = none ∧ H1 it = none ∧ Priv sc.heap.objs.size it s1 ∧ RelV x v ∧ Rp g rho1 H1 (.tup y) x ∧ (∀ p ∈ pins, p.1 ≠ sc.heap.objs.size ∧ p.1 ≠ it) ∧
        ∀ s2, Wk TT sc.heap.objs.size it base outer s1 s2 → One (model P w) A (LaterΦ g P w TT sc.heap.objs.size it base outer A zs s2) c (k (.send .none)) fs s2
/-- what stands behind the loop -/
abbrev gFr (env : Env) (c : Code) (p : Pos) : Frame :=
  .ret (fun (r : Result) => ((match r with | .ok f => (.pure f : Sem Flow) | .error e => .raise e).onRaise (cameBack env)).wrap (fun (fl : Flow) => match fl with | .next => (execs [] env).wrap (fun (f : Flow) => .pure (.done (.ret (match f with | .ret v => v | _ => .none)))) (fun e => (leaving env e).wrap (fun _ => .raise e) .raise id id) id id | fl => .pure (.done (.ret (match fl with | .ret v => v | _ => .none)))) (fun e => (leaving env e).wrap (fun _ => .raise e) .raise id id) id id) none (id false) (id []) c p []
theorem first_ok {sc s1 : Shared} {rho : Rho} {H : Hp} {h h2 : Hh} {pins : List (Addr × Obj)} {ds ys : List D} {ws : List V} {S0 : Stmt} {iter : Expr} {fpos : Pos} {kS : Env' → Hh → Sr} {fI : Env' → Hh → Rs D} {m : Nat} (S : GScope N ps scope) (hbl : ∀ x : Str, bnames.contains x = true → mg x = none) {k : Nat} (hr : Room k (A.deeper (envOfC qual scope sc.heap.objs.size f cd))) (hgd : A.guards = some []) (hnc : ∀ n, cellsFrom n scope.names [] = [])
    (der : GDer g P w mg base N qual scope f cd A outer sc.heap.objs.size tgt test elt Gt is t fE) (hS : DS g (gxL P w g.K mg base N qual scope f cd A outer sc.heap.objs.size sc H) noW S0 kS) (hI : DE g (gxL P w g.K mg base N qual scope f cd A outer sc.heap.objs.size sc H) noW iter fI)
    (hs : ∀ x, foldedSetIterable iter (envOfC qual scope sc.heap.objs.size f cd) x = pure x) (hi : interactive (envOfC qual scope sc.heap.objs.size f cd) = false)
    (hF : genF kS fI Gt t fE ks m ds h = .ok ys h2) (hm : N.length - ws.length = m) (Sm : Sim g rho h H) (r : RpL g rho H ds ws)
    (I : Inv (gxL P w g.K mg base N qual scope f cd A outer sc.heap.objs.size sc H) pins (L2.start N ws) H s1) :
    One (model P w) A (FirstΦ g P w base outer A sc rho H h2 pins ys) (.func [S0, .For tgt iter (gBody test elt yp ep ip) [] fpos] (envOfC qual scope sc.heap.objs.size f cd)) ((model P w).den (.func [S0, .For tgt iter (gBody test elt yp ep ip) [] fpos] (envOfC qual scope sc.heap.objs.size f cd))) [] s1 := by
  have cx : Cok g (gxL P w g.K mg base N qual scope f cd A outer sc.heap.objs.size sc H) noW := cok_gx S hbl hr hgd
  have E0 := env_start (g := g) r hm
  unfold genF at hF
  cases q1 : kS (ds.map some ++ List.replicate m none) h with
  | nx de h1 =>
    simp only [q1] at hF
    cases q2 : fI de h1 with
    | ok d h2' =>
      simp only [q2] at hF
      cases d with
      | tup xs =>
        have hF : (if xs.all flatT = true then (match gItems Gt t fE ks xs (envA de) with | some ys => Rs.ok ys h2' | none => .no) else .no) = Rs.ok ys h2 := hF
        by_cases hfl : xs.all flatT = true
        · rw [if_pos hfl] at hF
          cases q3 : gItems Gt t fE ks xs (envA de) with
          | none => rw [q3] at hF; cases hF
          | some ys' =>
            rw [q3] at hF
            cases hF
            refine one_func (one_execs_cons (one_wrap ?_))
            rw [over_func]
            have hD : okS g noW kS { nx := fun σ' H' => ∃ rho', Sim g rho' h1 H' ∧ Ext rho H rho' H' ∧ EnvR g rho' H' de σ', rt := fun _ _ => False } (L2.start N ws) H := by
              refine ⟨rho, _, h, Sm, E0, ?_⟩
              rw [q1]
              exact fun rho' H' sg' S' e' E' => ⟨rho', S', e', E'⟩
            refine wpAny_mono ((hS.ps cx).run pins s1 _ H _ I hD) (fun fl s2 h2s => ?_) fun _ _ z => z.elim
            cases fl with
            | next =>
              obtain ⟨σ2, H2, I2, rho2, S2, e2, E2⟩ := h2s
              refine one_execs_cons (one_For hs ?_)
              rw [over_func]
              have he : okE g noW fI σ2 H2 fun x H' => ∃ rho', Sim g rho' h2 H' ∧ Ext rho2 H2 rho' H' ∧ Rp g rho' H' (.tup xs) x := by
                refine ⟨rho2, de, h1, S2, E2, ?_⟩
                rw [q2]
                exact fun rho' H' x S' e' r' => ⟨rho', S', e', r'⟩
              refine wpAny_mono ((hI.pe cx).run pins s2 σ2 H2 _ I2 he) (fun u s3 h3 => ?_) fun _ _ z => z.elim
              obtain ⟨x, H3, I3, rx, rho3, S3, e3, r3⟩ := h3
              unfold Rp at r3
              obtain ⟨a0, vs, rfl, t0, l0⟩ := r3
              have eu : u = .ref a0 := rx
              subst eu
              obtain ⟨its, rv, tp, hz⟩ := I3.tuple (SqT.of t0.1)
              refine iter_tuple tp fun p => ?_
              let it := s3.heap.objs.size
              have I4 : Inv (gxL P w g.K mg base N qual scope f cd A outer sc.heap.objs.size sc H) pins σ2 H3 { s3 with heap := s3.heap.push { cls := .type "tuple_iterator", data := .fields #[.ref a0, .int 0 0] } } :=
                I3.kept (t' := s3.toks) fun b o e => Heap.get?_push_of_some _ e
              have fp := I3.fpOk (H' := H3) (b := it) (Nat.le_refl _) (I3.hok.fresh (Nat.le_refl _))
              have hkont : ∀ (Φ : End → Shared → Prop) (sx : Shared), Φ (.ret (.ok (.ret .none))) sx → One (model P w) A Φ (.block [] (envOfC qual scope sc.heap.objs.size f cd)) (.pure (.done .next)) [gFr (envOfC qual scope sc.heap.objs.size f cd) (.func [S0, .For tgt iter (gBody test elt yp ep ip) [] fpos] (envOfC qual scope sc.heap.objs.size f cd)) p] sx := fun Φ sx hx => by
                refine one_leaf (.ok .next) ?_
                exact one_end (.ok (.ret .none)) hx
              have g0 : ∀ {σ' : L2.St} {H' : Hp} {s' : Shared}, Inv (gxL P w g.K mg base N qual scope f cd A outer sc.heap.objs.size sc H) pins σ' H' s' → Grow H3 H' → Sim g rho3 h2 H' ∧ Ext rho H rho3 H' ∧ s'.os = sc.os ∧ AllBare s'.gens ∧ Un (frs outer) [] H H' sc.heap s'.heap ∧ HOk P w H' s'.heap ∧ (∀ p ∈ pins, s'.heap.get? p.1 = some p.2 ∧ H' p.1 = none) := fun {σ' H' s'} J gr => by
                obtain ⟨Sg, eg⟩ := Sim.grow S3 gr
                exact ⟨Sg, (e2.trans e3).trans eg, J.os, J.bare, J.base, J.hok, fun p hp => ⟨(J.pin p (List.mem_append_right _ hp)).1, (J.pin p (List.mem_append_right _ hp)).2.1⟩⟩
              have hover : A.over (gCode tgt it test elt yp ep ip (envOfC qual scope sc.heap.objs.size f cd)) [gFr (envOfC qual scope sc.heap.objs.size f cd) (.func [S0, .For tgt iter (gBody test elt yp ep ip) [] fpos] (envOfC qual scope sc.heap.objs.size f cd)) p] = A.deeper (envOfC qual scope sc.heap.objs.size f cd) :=
                (over_loop rfl rfl).trans over_func
              refine loop_seg (X := gxL P w g.K mg base N qual scope f cd A outer sc.heap.objs.size sc H) (pins := pins) cx (fun _ _ h => h) (der.hG _ _) (der.hT _ _) (der.hE _ _) S.co hi hover rfl xs 0 (envA de) ys _ σ2 H3 rfl q3 I4 ⟨_, Heap.get?_push_size _ rfl, rfl, rfl⟩ fp t0.1 (rpL_flat hfl l0 fun b us hb _ => ⟨hb, off0 b⟩) hfl (env_atoms (E2.ext e3)) ?_ ?_
              · intro s5 σ5 H5 hz I5 g5
                subst hz
                refine hkont _ s5 ?_
                obtain ⟨z1, z2, z3, z4, z5, z6, z7⟩ := g0 I5 g5
                exact ⟨rho3, H5, z1, z2, z3, z4, z5, z6, z7, rfl⟩
              · intro y zs k' l p' v s5 σ5 H5 j1 de1 hyz hya hit1 Y hk
                subst hyz
                obtain ⟨z1, z2, z3, z4, z5, z6, z7⟩ := g0 Y.inv Y.grow
                obtain ⟨x, rx, px⟩ := Y.val
                have hL5 : H5 sc.heap.objs.size = none := Y.inv.free
                let TT : Tb := fun a => match H5 a with
                  | some (.tup vs) => some vs
                  | _ => none
                have TTn : ∀ {b : Addr}, H5 b = none → TT b = none := fun {b} e => by
                  show (match H5 b with | some (.tup vs) => some vs | _ => none) = none
                  rw [e]
                have TTs : ∀ {b : Addr} {us : List V}, H5 b = some (.tup us) → TT b = some us := fun {b us} e => by
                  show (match H5 b with | some (.tup vs) => some vs | _ => none) = some us
                  rw [e]
                have TTo : ∀ {b : Addr} {us : List V}, TT b = some us → H5 b = some (.tup us) := fun {b us} e => by
                  have e' : (match H5 b with | some (.tup vs) => some vs | _ => none) = some us := e
                  cases q : H5 b with
                  | none => rw [q] at e'; cases e'
                  | some o => cases o <;> rw [q] at e' <;> first | (cases e'; rfl) | cases e'
                have hfr : ∀ b ∈ frs outer, b < sc.heap.objs.size ∧ H5 b = none := fun b hb => by
                  obtain ⟨_, o, ho, _⟩ := Y.inv.ok.funs.mem hb
                  exact ⟨Heap.lt_size ho, Y.inv.base.free b o ho (Y.inv.ok.frf b hb) (by simp)⟩
                have C : Stc TT sc.heap.objs.size it base outer := ⟨fun b hb => (hfr b hb).1, TTn hL5, TTn Y.free, fun b o e => TTn (Y.inv.bs b o e).2, fun b hb => TTn (hfr b hb).2, Y.inv.ok.bsz, I3.lt⟩
                have rv5 : Rp g rho3 H5 (.tup y) x := by
                  unfold Rp at px ⊢
                  obtain ⟨b, us, e1, ⟨tb, _⟩, lb⟩ := px
                  exact ⟨b, us, e1, ⟨tb, Sim.off_tup z1 tb⟩, rpL_atom hya lb⟩
                refine ⟨rho3, H5, z1, z2, z3, z4, z5, z6, z7, y, v, x, l, k', _, p', _, TT, it, rfl, rfl, rfl, rfl, C, fun a us e => TTo e, hL5, Y.free, priv_of rfl Y.inv Y.iter, rx, rv5, fun p hp => ⟨(Y.inv.pin p (List.mem_append_right _ hp)).2.2.1, fp.2.2.2.2.2 p (List.mem_append_right _ hp)⟩, fun s2' W => hk _ s2' ?_⟩
                have hxs : RpL g rho0 (fun b => (TT b).map .tup) xs vs := rpL_flat hfl l0 fun b us hb _ => ⟨by
                  show (TT b).map HO.tup = _
                  rw [TTs (Y.grow b _ hb)]; rfl, off0 b⟩
                exact later_ok S hbl hr hgd hnc C der hi hover rfl rfl hkont (TTs (Y.grow a0 _ t0.1)) hxs hfl zs j1 de1 sc H pins s5 σ5 H5 hit1 Y.inv Y.iter Y.env Y.atm s2' W
            | brk => obtain ⟨_, _, _, z⟩ := h2s; exact z.elim
            | cont => obtain ⟨_, _, _, z⟩ := h2s; exact z.elim
            | ret u => obtain ⟨_, _, _, _, _, z⟩ := h2s; exact z.elim
        · rw [if_neg hfl] at hF; cases hF
      | _ => cases hF
    | ex _ _ => simp only [q2] at hF; cases hF
    | no => simp only [q2] at hF; cases hF
  | rt _ _ => simp only [q1] at hF; cases hF
  | bk _ _ => simp only [q1] at hF; cases hF
  | ct _ _ => simp only [q1] at hF; cases hF
  | ex _ _ _ => simp only [q1] at hF; cases hF
  | no => simp only [q1] at hF; cases hF
end
end DL

set_option maxHeartbeats 2000000
/-! A generator def's promise. -/
namespace DL
open PySem PySem.Spec PyProof.Rows L2 GenW
/-- what a call gives: a generator that has not begun -/
def GNew (g : G) (P : Program) (w : World) (base : Heap) (k : Nat) (outer : List Env) (s : Shared) (H : Hp) (rho : Rho) (h2 : Hh) (ys : List D) (u : Value) (s' : Shared) : Prop :=
  ∃ (a : Addr) (gn : Nat) (go : Obj) (c : Code) (nm qn : Value), u = .ref a ∧ s.heap.objs.size < a ∧ s'.heap.get? a = some go ∧ go.cls = .type "generator" ∧ go.data = .fields #[.int gn 0, nm, qn] ∧ go.slots = #[] ∧ s'.gens[gn]? = some (.fresh c) ∧ s'.os = s.os ∧ AllBare s'.gens ∧
    (∀ b o, s.heap.get? b = some o → s'.heap.get? b = some o) ∧ ∀ (A' : Around) (s2 : Shared), Room k A' → A'.guards = some [] → A'.frames = some outer → s2.heap = s'.heap → s2.os = s.os → AllBare s2.gens →
      One (model P w) A'.in1 (FirstΦ g P w base outer A'.in1 s rho H h2 [(a, go)] ys) c ((model P w).den c) [] s2
structure GnOk (g : G) (P : Program) (w : World) (mg : Str → Option Value) (base : Heap) (k : Nat) (f : Addr) (fd : FuncData) (ps : List Str) (F : List D → Hh → Rs (List D)) : Prop where
  run : ∀ (A : Around) (outer : List Env) (s : Shared) (H : Hp) (args : Args) (us : List Value) (vs : List V) (rho : Rho) (ds : List D) (h h2 : Hh) (ys : List D), Room k A → Env0 P w g.K mg base A outer s H → BindsTo s fd args (ps.zip us) → Vals vs us → vs.length = ps.length →
    Sim g rho h H → RpL g rho H ds vs → F ds h = .ok ys h2 → codeAny (model P w) A (.call (.ref f) args) (fun r s' => match r with | .ok (.ret u) => GNew g P w base k outer s H rho h2 ys u s' | _ => False) s
theorem GnOk.mono {g : G} {P : Program} {w : World} {mg : Str → Option Value} {base : Heap} {j k : Nat} {f : Addr} {fd : FuncData} {ps : List Str} {F : List D → Hh → Rs (List D)} (x : GnOk g P w mg base j f fd ps F) (h : j ≤ k) : GnOk g P w mg base k f fd ps F :=
  ⟨fun A outer s H args us vs rho ds h1 h2 ys hr e0 hb r hl Sm rd hF => codeAny_mono (x.run A outer s H args us vs rho ds h1 h2 ys (hr.mono h) e0 hb r hl Sm rd hF) fun rr s' q => by
    cases rr with
    | error e => exact q
    | ok fl => cases fl with
      | ret u =>
        obtain ⟨a, gn, go, c, nm, qn, q1, q2, q3, q4, q5, q6, q7, q8, q9, q10, q11⟩ := q
        exact ⟨a, gn, go, c, nm, qn, q1, q2, q3, q4, q5, q6, q7, q8, q9, q10, fun A' s2 hr' => q11 A' s2 (hr'.mono h)⟩
      | _ => exact q⟩
section
variable {g : G} {P : Program} {w : World} {mg : Str → Option Value} {base : Heap} {N ps : List Str} {name qual : Str} {scope : Scope} {f : Addr} {S0 : Stmt} {iter tgt test elt : Expr} {yp ep ip fpos : Pos} {kS : Env' → Hh → Sr} {fI : Env' → Hh → Rs D} {Gt : GD} {is : List Nat} {t : Env' → Hh → Rs Bool} {fE : Env' → Hh → Rs D} {ks : List Nat}
/-- THE RULE: a generator def of this form keeps its promise -/
theorem gn_of {x : Str} {params : Arguments} {dvs : List V} {kws : List (Str × V)} {fd : FuncData} {k m : Nat} (F : FunD g.K x qual params [S0, .For tgt iter (gBody test elt yp ep ip) [] fpos] scope dvs kws f fd) (S : GScope N ps scope) (hbl : ∀ x : Str, bnames.contains x = true → mg x = none) (hm : N.length = ps.length + m) (hnc : ∀ n, cellsFrom n scope.names [] = [])
    (hder : ∀ (cdv : Value) (A : Around) (outer : List Env) (L : Addr), Room k (A.deeper (envOfC qual scope L f cdv)) → GDer g P w mg base N qual scope f cdv A outer L tgt test elt Gt is t fE)
    (hS : ∀ (cdv : Value) (A : Around) (outer : List Env) (L : Addr) (s : Shared) (H : Hp), Room k (A.deeper (envOfC qual scope L f cdv)) → DS g (gxL P w g.K mg base N qual scope f cdv A outer L s H) noW S0 kS)
    (hI : ∀ (cdv : Value) (A : Around) (outer : List Env) (L : Addr) (s : Shared) (H : Hp), Room k (A.deeper (envOfC qual scope L f cdv)) → DE g (gxL P w g.K mg base N qual scope f cdv A outer L s H) noW iter fI)
    (hs : ∀ (cdv : Value) (L : Addr) x, foldedSetIterable iter (envOfC qual scope L f cdv) x = pure x := by intro _ _ _; rfl) (hi : ∀ (cdv : Value) (L : Addr), interactive (envOfC qual scope L f cdv) = false := by intro _ _; rfl) :
    GnOk g P w mg base (k + 2) f fd ps (genF kS fI Gt t fE ks m) := by
  obtain ⟨oc, od, dV, kV, doc, pm, an, cdv, ct, osl, rfl, lk, hcd, _, _⟩ := F.ex
  refine ⟨fun A outer s H args us vs rho ds h h2 ys hr e0 hb r hl Sm rd hF => ?_⟩
  have KX : g.K.In s.heap := e0.mod.kin.keeps fun b o e => (e0.bs b o e).1
  have lim : s.heap.NoLimit := e0.mod.nolimit.keeps fun b o e => (e0.bs b o e).1
  have hkind : ∀ y ∈ ps.zip us, scope.names.lookup y.1 = some .local ∨ (scope.names.lookup y.1 = some .cell ∧ ((cellsFrom (s.heap.objs.size + 1) scope.names []).lookup y.1).isSome = true) := fun ⟨n, v⟩ hy => by
    rcases S.par n (List.of_mem_zip hy).1 with q | q
    · exact .inl q
    · exact .inr ⟨q, PySem.W.cellsFrom_some _ _ _ (.inl q)⟩
  refine codeAny_call_generator hr.depth (KX _ _ lk) rfl S.co S.gen rfl (PySem.W.codeRec_of KX hcd) (hb _ _ _ _ ?_)
  refine wpAny_newFunctionEnv_cells S.kind hkind fun env he s1 x => ?_
  subst he
  have lim1 : s1.heap.NoLimit := lim.keeps x.toInCall.keep
  refine ⟨lim1, ?_⟩
  obtain ⟨h1, tk, es1, hk1⟩ := x.done
  have os1 : s1.os = s.os := by rw [es1]
  have gen1 : s1.gens = s.gens := by rw [es1]
  have lt1 : s.heap.objs.size < s1.heap.objs.size := x.toInCall.ns.lt
  have kp1 : ∀ b o, s.heap.get? b = some o → s1.heap.get? b = some o := x.toInCall.keep
  have main : ∀ (go : Obj) (nm qn : Value) (tk2 : Nat), go.cls = .type "generator" → go.data = .fields #[.int s1.gens.size 0, nm, qn] → go.slots = #[] → (∀ h : Heap, (h.push go).get? h.objs.size = some go) →
      GNew g P w base (k + 2) outer s H rho h2 ys (.ref s1.heap.objs.size) { s1 with gens := s1.gens.push (.fresh (.func [S0, .For tgt iter (gBody test elt yp ep ip) [] fpos] (envOfC qual scope s.heap.objs.size f cdv))), toks := tk2, heap := s1.heap.push go } := by
    intro go nm qn tk2 hgc hgd0 hgs hgp
    have hpushed : (s1.heap.push go).get? s1.heap.objs.size = some go := hgp _
    refine ⟨s1.heap.objs.size, s1.gens.size, go, _, nm, qn, rfl, lt1, hpushed, hgc, hgd0, hgs, Array.getElem?_push_size .., os1, ?_, fun b o e => Heap.get?_push_of_some _ (kp1 b o e), ?_⟩
    · exact AllBare.push (by rw [gen1]; exact e0.bare) rfl
    intro Aw s2 hrw hgd hfr hh2 hos hba
    have e0w : Env0 P w g.K mg base Aw.in1 outer s H := ⟨hfr, e0.mod, e0.bs, e0.bsz, e0.funs, e0.frf, e0.hok, e0.bare⟩
    have hrd : Room k (Aw.in1.deeper (envOfC qual scope s.heap.objs.size f cdv)) := (hrw.in1).deeper _
    have I1 : Inv (gcxOf P w g.K mg base N qual scope f cdv Aw.in1 outer s H (fun _ _ _ => False) []) [] (L2.start N vs) H s1 := inv_startG S hrw.in1.hd e0w hl r x
    have kp2 : ∀ b o, s1.heap.get? b = some o → s2.heap.get? b = some o := fun b o e => by rw [hh2]; exact Heap.get?_push_of_some _ e
    have I2 : Inv (gxL P w g.K mg base N qual scope f cdv Aw.in1 outer s.heap.objs.size s H) [] (L2.start N vs) H s2 :=
      (inv_gx I1).call' (ch := []) (hos.trans os1.symm) (Un.kept kp2) (I1.hok.kept kp2) hba fun b z => by simp at z
    have I3 : Inv (gxL P w g.K mg base N qual scope f cdv Aw.in1 outer s.heap.objs.size s H) [(s1.heap.objs.size, go)] (L2.start N vs) H s2 := I2.pins_of fun p hp => by
      rw [List.mem_singleton.mp hp]
      have fp := I1.fpOk (H' := H) (b := s1.heap.objs.size) (Nat.le_refl _) (I1.hok.fresh (Nat.le_refl _))
      exact ⟨by rw [hh2]; exact hpushed, fp.1, fp.2.1, fp.2.2.1, fun v q => by rw [hgd0] at q; cases q⟩
    exact first_ok S hbl hrd hgd hnc (hder cdv Aw.in1 outer _ hrd) (hS cdv Aw.in1 outer _ s H hrd) (hI cdv Aw.in1 outer _ s H hrd) (hs cdv _) (hi cdv _) hF (by rw [hm, hl]; omega) Sm rd I3
  exact main _ _ _ _ rfl rfl rfl fun h => Heap.get?_push_size _ rfl
/-- a method that is a generator -/
structure GeA (g : G) (P : Program) (w : World) (mg : Str → Option Value) (base : Heap) (k : Nat) (c : Nat) (m : Str) (F : List D → Hh → Rs (List D)) : Prop where
  ex : ∃ (f : Addr) (fd : FuncData) (ps : List Str) (F' : List D → Hh → Rs (List D)), GnOk g P w mg base k f fd ps F' ∧ Meth g.K (g.ca c) m f ∧ Binds g.K fd ps [] ∧ ∀ es h, F es h = if es.length = ps.length then F' es h else .no
theorem GeA.mono {j k c : Nat} {m : Str} {F : List D → Hh → Rs (List D)} (x : GeA g P w mg base j c m F) (h : j ≤ k) : GeA g P w mg base k c m F :=
  let ⟨f, fd, ps, F', a, b, c, d⟩ := x.ex
  ⟨f, fd, ps, F', a.mono h, b, c, d⟩
/-- the number of arguments -/
noncomputable def lenG (n : Nat) (F : List D → Hh → Rs (List D)) : List D → Hh → Rs (List D) := fun es h => if es.length = n then F es h else .no
end
/-! ### looks -/
/-- a generator's scope, without cells -/
def gsC (N P : List Str) (sc : Scope) : Bool :=
  decide (sc.kind = .function) && !sc.isCoroutine && sc.isGenerator && decide N.Nodup && decide (N.take P.length = P) && P.all (fun x => decide (sc.names.lookup x = some .local) || decide (sc.names.lookup x = some .cell)) && sc.names.all (fun y => !decide (y.2 = .free)) && sc.names.all (fun y => !(y.2 == .cell))
theorem gscope_by {N P : List Str} {sc : Scope} (h : gsC N P sc = true) : GScope N P sc ∧ ∀ n, cellsFrom n sc.names [] = [] := by
  unfold gsC at h
  simp only [Bool.and_eq_true, Bool.not_eq_true', decide_eq_true_eq, List.all_eq_true, Bool.or_eq_true, decide_eq_false_iff_not] at h
  obtain ⟨⟨⟨⟨⟨⟨⟨h1, h2⟩, h3⟩, h4⟩, h5⟩, h6⟩, h7⟩, h8⟩ := h
  refine ⟨⟨h1, h2, h3, h4, h5, h6, h7⟩, fun n => ?_⟩
  have go : ∀ l : List (Str × NameKind), (∀ y ∈ l, (y.2 == .cell) = false) → cellsFrom n l [] = [] := by
    intro l
    induction l with
    | nil => intro _; rfl
    | cons y l ih =>
      intro hl
      obtain ⟨a, b⟩ := y
      have h1 := hl (a, b) List.mem_cons_self
      have h1' : (b == NameKind.cell) = false := h1
      unfold cellsFrom
      rw [h1']
      exact ih fun z hz => hl z (List.mem_cons_of_mem _ hz)
  exact go _ h8
def gPass : Stmt := .Pass ⟨0, 0, 0, 0⟩
def gS0 (b : List Stmt) : Stmt := b.getD 0 gPass
def gFo (b : List Stmt) : Stmt := b.getD 1 gPass
def gTg : Stmt → Expr
  | .For t _ _ _ _ => t
  | _ => .Name "" ⟨0, 0, 0, 0⟩
def gIt : Stmt → Expr
  | .For _ i _ _ _ => i
  | _ => .Name "" ⟨0, 0, 0, 0⟩
def gFp : Stmt → Pos
  | .For _ _ _ _ p => p
  | _ => ⟨0, 0, 0, 0⟩
def gIf : Stmt → Stmt
  | .For _ _ b _ _ => b.getD 0 gPass
  | _ => gPass
def gTe : Stmt → Expr
  | .If t _ _ _ => t
  | _ => .Name "" ⟨0, 0, 0, 0⟩
def gIp : Stmt → Pos
  | .If _ _ _ p => p
  | _ => ⟨0, 0, 0, 0⟩
def gEx : Stmt → Stmt
  | .If _ b _ _ => b.getD 0 gPass
  | _ => gPass
def gEl : Stmt → Expr
  | .Expr (.Yield (some e) _) _ => e
  | _ => .Name "" ⟨0, 0, 0, 0⟩
def gYp : Stmt → Pos
  | .Expr (.Yield _ p) _ => p
  | _ => ⟨0, 0, 0, 0⟩
def gEp : Stmt → Pos
  | .Expr _ p => p
  | _ => ⟨0, 0, 0, 0⟩
/-- a body of this form, by its parts -/
abbrev gForm (b : List Stmt) : List Stmt := [gS0 b, .For (gTg (gFo b)) (gIt (gFo b)) (gBody (gTe (gIf (gFo b))) (gEl (gEx (gIf (gFo b)))) (gYp (gEx (gIf (gFo b)))) (gEp (gEx (gIf (gFo b)))) (gIp (gIf (gFo b)))) [] (gFp (gFo b))]
abbrev FnL := List D → Hh → Rs (List D)
end DL

set_option maxHeartbeats 2000000
/-! A for over a generator's call. -/
namespace DL
open PySem PySem.Spec PyProof.Rows L2 GenW
theorem ObjOk.here {P : Program} {w : World} {H : Hp} {h : Heap} {a : Addr} {o : HO} (x : ObjOk P w H h a o) : ∃ u, h.get? a = some u := by
  cases o with
  | lst xs => obtain ⟨_, _, _, _, e⟩ := x; exact ⟨_, e⟩
  | tup xs => obtain ⟨_, _, _, ob, e, _⟩ := x; exact ⟨_, e⟩
  | dK kvs => obtain ⟨_, _, _, _, o, _, _, e, _⟩ := x; exact ⟨_, e⟩
  | dT kvs => obtain ⟨_, _, _, _, o, _, _, e, _⟩ := x; exact ⟨_, e⟩
  | set S n => obtain ⟨o, _, _, _, e, _⟩ := x; exact ⟨_, e⟩
  | ins C dx fs => obtain ⟨_, _, _, e, _⟩ := x; exact ⟨_, e⟩
  | own y => exact x
  | xd fs => obtain ⟨_, ⟨_, _, _, e, _⟩, _⟩ := x; exact ⟨_, e⟩
  | rng lo hi => obtain ⟨_, _, _, e⟩ := x; exact ⟨_, e⟩
  | frz ob u => obtain ⟨e, _⟩ := x; exact ⟨_, e⟩
  | tbl ps => exact ⟨_, (show h.get? a = some _ from x)⟩
  | met f y => exact ⟨_, (show h.get? a = some _ from x)⟩
  | ext φ => obtain ⟨_, e, _⟩ := x; exact e
/-- without exceptions -/
abbrev quietX (X : Cx) : Cx := { X with xe := fun _ _ => False }
section
variable {g : G} {X : Cx} {W : WX} {pins : List (Addr × Obj)} {σ : L2.St} {H : Hp} {s : Shared}
theorem inv_hush (I : Inv X pins σ H s) : Inv (quietX X) pins σ H s :=
  ⟨⟨I.ok.mod, I.ok.kind, I.ok.glob, I.ok.blt, I.ok.above, I.ok.inj, I.ok.has, I.ok.cab, I.ok.hd, I.ok.frames, I.ok.stk, I.ok.exf, I.ok.bs, I.ok.bsz, I.ok.noex, I.ok.exfs, I.ok.funs, I.ok.frf⟩, I.os, I.bare, I.base, I.loc, I.cell, I.free, I.freeC, I.pin, I.hok, I.len⟩
theorem inv_unhush (I : Inv (quietX X) pins σ H s) : Inv X pins σ H s :=
  ⟨⟨I.ok.mod, I.ok.kind, I.ok.glob, I.ok.blt, I.ok.above, I.ok.inj, I.ok.has, I.ok.cab, I.ok.hd, I.ok.frames, I.ok.stk, I.ok.exf, I.ok.bs, I.ok.bsz, I.ok.noex, I.ok.exfs, I.ok.funs, I.ok.frf⟩, I.os, I.bare, I.base, I.loc, I.cell, I.free, I.freeC, I.pin, I.hok, I.len⟩
theorem inv_regen {G : Array GenState} (I : Inv X pins σ H s) (h : AllBare G) : Inv X pins σ H { s with gens := G } :=
  ⟨I.ok, I.os, h, I.base, I.loc, I.cell, I.free, I.freeC, I.pin, I.hok, I.len⟩
theorem inv_ungen {G : Array GenState} (I : Inv X pins σ H { s with gens := G }) (h : AllBare s.gens) : Inv X pins σ H s :=
  ⟨I.ok, I.os, h, I.base, I.loc, I.cell, I.free, I.freeC, I.pin, I.hok, I.len⟩
theorem Cok.hush (cx : Cok g X W) : Cok g (quietX X) noW :=
  ⟨cx.K, cx.calm, cx.room, fun u s' ⟨_, _, _, _, _, _, _, _, _, _, _, _, _, _, _, _, w⟩ => w.elim, cx.bl, cx.nd, PassesOwn.never, fun _ _ _ _ _ h => h, cx.gd⟩
/-! ### from outside -/
variable {P : Program} {w : World} {TT : Tb} {L it : Addr} {outer : List Env} {s1 s2 : Shared} {rho : Rho} {h : Hh}
theorem lf_un (F : Lf TT L it outer s1 s2) (hT : ∀ a vs, TT a = some vs → H a = some (.tup vs)) (hok : HOk P w H s1.heap) (hL : H L = none) (hi : H it = none) (hfr : ∀ b ∈ frs outer, H b = none) :
    Un (frs outer) [L, it] H H s1.heap s2.heap ∧ HOk P w H s2.heap := by
  have nT : ∀ b, H b = none → TT b = none := fun b e => by
    cases q : TT b with
    | none => rfl
    | some vs => have := hT b vs q; rw [e] at this; cases this
  have ne : ∀ b : Addr, b ∉ [L, it] → b ≠ L ∧ b ≠ it := fun b hb => ⟨fun z => hb (by rw [z]; simp), fun z => hb (by rw [z]; simp)⟩
  have kp : ∀ b u, H b ≠ none → TT b = none → s1.heap.get? b = some u → s2.heap.get? b = some u := fun b u n1 n2 e => by
    refine F.keep b u e (fun z => n1 (by rw [z]; exact hL)) (fun z => n1 (by rw [z]; exact hi)) n2 fun hb => n1 (hfr b hb)
  refine ⟨⟨fun b o e n hb hx => F.keep b o e (ne b hx).1 (ne b hx).2 (nT b n) hb, fun b o e n hb hx => F.slot b o e (ne b hx).1 (ne b hx).2 (nT b n) hb, fun _ _ _ n _ => n, fun b o e hx => ?_, fun _ _ q => q, fun _ _ _ q => q, fun b ps q => ⟨#[], by rw [Array.append_empty]; exact q⟩⟩, fun a o e => ?_⟩
  · cases q : TT b with
    | some vs => exact ObjOk.here (P := P) (w := w) (H := H) (o := .tup vs) (F.tup b vs q)
    | none =>
      by_cases hb : b ∈ frs outer
      · obtain ⟨sl, e2⟩ := F.slot b o e (ne b hx).1 (ne b hx).2 q hb
        exact ⟨_, e2⟩
      · exact ⟨o, F.keep b o e (ne b hx).1 (ne b hx).2 q hb⟩
  · cases q : TT a with
    | some vs =>
      have := hT a vs q
      rw [e] at this
      cases this
      exact F.tup a vs q
    | none =>
      refine (hok a o e).stay (fun b u hb eb => ?_) (fun _ z => z) fun _ _ z => z
      rcases hb with rfl | hb
      · exact kp b u (by rw [e]; simp) q eb
      · refine kp b u (by rw [hb]; simp) ?_ eb
        cases q2 : TT b with
        | none => rfl
        | some vs => have := hT b vs q2; rw [hb] at this; cases this
/-- .. and the value -/
theorem lf_val {y : List D} {v : Value} (F : Lf TT L it outer s1 s2) (hT : ∀ a vs, TT a = some vs → H a = some (.tup vs)) (hok : HOk P w H s1.heap) (hL : H L = none) (hi : H it = none) (hfr : ∀ b ∈ frs outer, H b = none)
    (pr : Priv L it s1) (Sm : Sim g rho h H) (V : LVal g TT y v s1 s2) :
    ∃ H' x, RelV x v ∧ Un (frs outer) [L, it] H H' s1.heap s2.heap ∧ HOk P w H' s2.heap ∧ Sim g rho h H' ∧ Ext rho H rho H' ∧ Rp g rho H' (.tup y) x ∧ (∀ a vs, TT a = some vs → H' a = some (.tup vs)) ∧ H' L = none ∧ H' it = none := by
  obtain ⟨u, hk⟩ := lf_un F hT hok hL hi hfr
  obtain ⟨b, vs, rfl, hy, hb, tb, lb⟩ := V
  rcases hb with hb | hb
  · have e := hT b vs hb
    refine ⟨H, .ref b, rfl, u, hk, Sm, Ext.refl _ _, ?_, hT, hL, hi⟩
    unfold Rp
    exact ⟨b, vs, rfl, ⟨e, Sim.off_tup Sm e⟩, rpL_atom hy lb⟩
  · have e : H b = none := by
      cases q : H b with
      | none => rfl
      | some o => obtain ⟨z, e⟩ := ObjOk.here (hok b o q); rw [hb] at e; cases e
    obtain ⟨⟨oL, eL, _⟩, oi, ei, _⟩ := pr
    have n1 : L ≠ b := fun z => by rw [← z, eL] at hb; cases hb
    have n2 : it ≠ b := fun z => by rw [← z, ei] at hb; cases hb
    have gr : Grow H (upd H b (.tup vs)) := fun a o q => by rw [upd_ne (ne_of_none q e)]; exact q
    obtain ⟨Sm', ex⟩ := Sim.grow Sm gr
    refine ⟨upd H b (.tup vs), .ref b, rfl, ⟨fun c o q n hb' hx => u.keep c o q n hb' hx, fun c o q n hb' hx => u.slot c o q n hb' hx, fun c o q n _ => ?_, u.there, fun c xs q => gr c _ q, fun c o x q => gr c _ q, fun c ps q => ⟨#[], by rw [Array.append_empty]; exact gr c _ q⟩⟩, fun c o q => ?_, Sm', ex, ?_, fun a vs q => gr a _ (hT a vs q), by rw [upd_ne n1]; exact hL, by rw [upd_ne n2]; exact hi⟩
    · have : c ≠ b := fun z => by rw [z, hb] at q; cases q
      rw [upd_ne this]; exact n
    · by_cases z : c = b
      · subst z
        rw [upd_same] at q
        cases q
        exact tb
      · rw [upd_ne z] at q
        exact (hk c o q).stay (fun _ _ _ q => q) (fun c' q' => gr c' _ q') fun c' xs q' => gr c' _ q'
    · unfold Rp
      exact ⟨b, vs, rfl, ⟨upd_same, Sim.off_tup Sm' upd_same⟩, rpL_atom hy lb⟩
end
/-! ### the consumer -/
/-- the turn goes on, or the plain function says nothing -/
noncomputable def onlyNx (k : Env' → Hh → Sr) : Env' → Hh → Sr := fun de h => match k de h with
  | .nx d h' => .nx d h'
  | .ct d h' => .nx d h'
  | _ => .no
noncomputable def sForG (c : Nat) (F : List D → Hh → Rs (List D)) (fo : Env' → Hh → Rs D) (fs : Env' → Hh → Rs (List D)) (Gc : GD) (kb : Env' → Hh → Sr) (ks : List Nat) : Env' → Hh → Sr := fun de h => (fo de h).st de fun d h1 => match insOf h1 d with
  | some (_, c', _) => if c' = c then (fs de h1).st de fun ds h2 => (match F (d :: ds) h2 with
    | .ok ys h3 => loopS ⟨none, ys⟩ Gc (onlyNx kb) ks ys de h3
    | _ => .no) else .no
  | none => .no
section
variable {g : G} {X : Cx} {W : WX} {pins : List (Addr × Obj)} {tg : Expr} {body : List Stmt} {Gc : GD} {is : List Nat} {kb : Env' → Hh → Sr} {ks : List Nat} {ys0 : List D} {Ds : Ends} {gn : Nat} {zs : List D} {s : Shared}
/-- the generator sleeps; what is left of it and of the loop -/
def Slp (g : G) (X : Cx) (W : WX) (pins : List (Addr × Obj)) (Gc : GD) (kb : Env' → Hh → Sr) (ks : List Nat) (ys0 : List D) (Ds : Ends) (gn : Nat) (zs : List D) (s : Shared) : Prop :=
  ∃ (σ : L2.St) (H : Hp) (rho : Rho) (de : Env') (h : Hh) (k : Resume → Sem PySem.Fin) (l : List Value) (c : Code) (p : Pos) (fs : List Frame) (TT : Tb) (L it : Addr), Inv X pins σ H s ∧ FpOk X pins H L ∧ FpOk X pins H it ∧ Priv L it s ∧ s.gens[gn]? = some (.suspended k l c p fs false) ∧ (∀ a vs, TT a = some vs → H a = some (.tup vs)) ∧
    Sim g rho h H ∧ EnvR g rho H de σ ∧ AftS g W rho H Ds (loopS ⟨none, ys0⟩ Gc (onlyNx kb) ks zs de h) ∧ ∀ G, AllBare G → One (model X.prog X.w) X.A.in1 (LaterΦ g X.prog X.w TT L it X.base X.stack X.A.in1 zs { s with gens := G }) c (k (.send .none)) fs { s with gens := G }
theorem body_ok {σ : L2.St} {H : Hp} {rho : Rho} {de : Env'} {h : Hh} {k : Resume → Sem PySem.Fin} {l : List Value} {c : Code} {p : Pos} {fs : List Frame} {TT : Tb} {L it : Addr} {y0 : D} {x : V} {v : Value} (cx : Cok g X W) (hG : DG g (quietX X) noW tg Gc is) (hB : DSs g (quietX X) noW body kb)
    (I : Inv X pins σ H s) (fL : FpOk X pins H L) (fi : FpOk X pins H it) (pr : Priv L it s) (hg : s.gens[gn]? = some (.suspended k l c p fs false)) (hT : ∀ a vs, TT a = some vs → H a = some (.tup vs)) (Sm : Sim g rho h H) (E : EnvR g rho H de σ) (r : Rp g rho H y0 x) (rv : RelV x v)
    (A : AftS g W rho H Ds (loopS ⟨none, ys0⟩ Gc (onlyNx kb) ks (y0 :: zs) de h)) (later : ∀ s2, Wk TT L it X.base X.stack s s2 → One (model X.prog X.w) X.A.in1 (LaterΦ g X.prog X.w TT L it X.base X.stack X.A.in1 zs s2) c (k (.send .none)) fs s2) :
    wpAny (model X.prog X.w) X.A (assign tg X.env v) (fun _ s6 => wpAny (model X.prog X.w) X.A (execs body X.env) (fun f s7 => (f = .next ∨ f = .cont) ∧ Slp g X W pins Gc kb ks ys0 Ds gn zs s7) (fun _ _ => False) s6) (fun _ _ => False) s := by
  unfold loopS at A
  rw [if_pos (show (⟨none, ys0⟩ : Src).ok h from trivial)] at A
  cases q1 : Gc y0 de h with
  | none => rw [q1] at A; exact A.elim
  | some pp =>
    obtain ⟨de1, h1⟩ := pp
    simp only [q1] at A
    obtain ⟨⟨oL, eL, dL⟩, oi, ei, di⟩ := id pr
    have hf : ∀ b ∈ [L, it], FpOk X pins H b := fun b hb => by
      rcases List.mem_cons.mp hb with rfl | hb
      · exact fL
      · rw [List.mem_singleton.mp hb]; exact fi
    have J := I.pinned hf fun b hb => by
      rcases List.mem_cons.mp hb with rfl | hb
      · exact ⟨oL, eL, dL⟩
      · rw [List.mem_singleton.mp hb]; exact ⟨oi, ei, di⟩
    have pL := mem_pinsAt (fp := [L, it]) (by simp) eL
    have pi := mem_pinsAt (fp := [L, it]) (by simp) ei
    have nx : ∃ de2 h2, (kb de1 h1 = .nx de2 h2 ∨ kb de1 h1 = .ct de2 h2) ∧ AftS g W rho H Ds (loopS ⟨none, ys0⟩ Gc (onlyNx kb) ks zs (kill de2 ks) h2) := by
      unfold onlyNx at A
      cases q2 : kb de1 h1 with
      | nx d h' => simp only [q2] at A; exact ⟨d, h', .inl rfl, A⟩
      | ct d h' => simp only [q2] at A; exact ⟨d, h', .inr rfl, A⟩
      | rt _ _ => simp only [q2] at A; exact A.elim
      | bk _ _ => simp only [q2] at A; exact A.elim
      | ex _ _ _ => simp only [q2] at A; exact A.elim
      | no => simp only [q2] at A; exact A.elim
    obtain ⟨de2, h2, q2, A2⟩ := nx
    refine wpAny_mono (wpAny_sleep J.bare fun G hGb => ((hG.pg cx.hush).run _ { s with gens := G } σ H x v (fun σ6 H6 => ∃ rho6, Sim g rho6 h1 H6 ∧ Ext rho H rho6 H6 ∧ EnvR g rho6 H6 de1 σ6) (inv_hush (inv_regen J hGb)) rv ⟨rho, y0, de, h, de1, h1, Sm, E, r, q1, fun rho' H' sg' S' e' E' _ => ⟨rho', S', e', E'⟩⟩)) (fun _ s6 h6 => ?_) fun _ _ z => z.2.elim fun _ z => z.2
    obtain ⟨kp6, G6, b6, σ6, H6, I6, rho6, S6, e6, E6⟩ := h6
    have b6' := b6 I6.bare
    refine wpAny_mono (wpAny_sleep b6' fun G hGb => ((hB.pss cx.hush).run _ { s6 with gens := G } σ6 H6 { nx := fun σ7 H7 => ∃ rho7, Sim g rho7 h2 H7 ∧ Ext rho6 H6 rho7 H7 ∧ EnvR g rho7 H7 de2 σ7, ct := fun σ7 H7 => ∃ rho7, Sim g rho7 h2 H7 ∧ Ext rho6 H6 rho7 H7 ∧ EnvR g rho7 H7 de2 σ7, rt := fun _ _ => False } (inv_regen (inv_ungen I6 b6') hGb) ⟨rho6, de1, h1, S6, E6, ?_⟩)) (fun f s7 h7 => ?_) fun _ _ z => z.2.elim fun _ z => z.2
    · rcases q2 with q2 | q2
      · rw [q2]; exact fun rho' H' sg' S' e' E' => ⟨rho', S', e', E'⟩
      · rw [q2]; exact fun rho' H' sg' S' e' E' => ⟨rho', S', e', E'⟩
    obtain ⟨kp7, G7, b7, h7⟩ := h7
    have fin : ∀ {σ7 : L2.St} {H7 : Hp}, Inv (quietX X) (pins ++ pinsAt [L, it] s.heap) σ7 H7 { s7 with gens := G7 } → (∃ rho7, Sim g rho7 h2 H7 ∧ Ext rho6 H6 rho7 H7 ∧ EnvR g rho7 H7 de2 σ7) → Slp g X W pins Gc kb ks ys0 Ds gn zs s7 := fun {σ7 H7} I7 ⟨rho7, S7, e7, E7⟩ => by
      have I7' : Inv X (pins ++ pinsAt [L, it] s.heap) σ7 H7 s7 := inv_unhush (inv_ungen I7 (b7 I7.bare))
      have ex := e6.trans e7
      have hT7 : ∀ a vs, TT a = some vs → H7 a = some (.tup vs) := fun a vs e => ex.keep a _ (Sim.off_tup Sm (hT a vs e)).1 (hT a vs e)
      have oL7 := I7'.pin _ (List.mem_append_right _ (List.mem_append_right _ pL))
      have oi7 := I7'.pin _ (List.mem_append_right _ (List.mem_append_right _ pi))
      refine ⟨σ7, H7, rho7, kill de2 ks, h2, k, l, c, p, fs, TT, L, it, I7'.unpinned, ⟨oL7.2.1, fL.2⟩, ⟨oi7.2.1, fi.2⟩, ⟨⟨oL, oL7.1, dL⟩, oi, oi7.1, di⟩, kp7 gn _ (kp6 gn _ hg rfl) rfl, hT7, S7, EnvR.kill E7 ks, AftS.later A2 ex, fun G hGb => later _ ⟨?_, hGb, fun o e => ?_, fun o e => ?_, fun a vs e => I7'.hok a _ (hT7 a vs e), I7'.bk, I7'.stack⟩⟩
      · exact I7'.os.trans I.os.symm
      · rw [eL] at e; cases e; exact oL7.1
      · rw [ei] at e; cases e; exact oi7.1
    cases f with
    | next => obtain ⟨σ7, H7, I7, q7⟩ := h7; exact ⟨.inl rfl, fin I7 q7⟩
    | cont => obtain ⟨σ7, H7, I7, q7⟩ := h7; exact ⟨.inr rfl, fin I7 q7⟩
    | brk => obtain ⟨_, _, _, z⟩ := h7; exact z.elim
    | ret u => obtain ⟨_, _, _, _, _, z⟩ := h7; exact z.elim
end
section
variable {g : G} {X : Cx} {W : WX} {pins : List (Addr × Obj)} {tg : Expr} {body : List Stmt} {Gc : GD} {is : List Nat} {kb : Env' → Hh → Sr} {ks : List Nat} {Ds : Ends}
theorem loop_end {ys0 : List D} {rho : Rho} {H : Hp} {de : Env'} {h : Hh} {σ : L2.St} {s : Shared} (A : AftS g W rho H Ds (loopS ⟨none, ys0⟩ Gc (onlyNx kb) ks [] de h)) (Sm : Sim g rho h H) (E : EnvR g rho H de σ) (I : Inv X pins σ H s) : SP X pins Ds .next s := by
  unfold loopS at A
  rw [if_pos (show (⟨none, ys0⟩ : Src).ok h from trivial)] at A
  exact ⟨σ, H, I, A rho H σ Sm (Ext.refl _ _) E⟩
theorem setGen_other {s : Shared} {gn : Nat} {x : GenState} : (s.setGen gn x) = { s with gens := s.gens.setIfInBounds gn x } := rfl
theorem gen_loop {k : Nat} {σ : L2.St} {H : Hp} {rho : Rho} {de : Env'} {h2 : Hh} {ys : List D} {sc s1 : Shared} {u : Value} (cx : Cok g X W) (hr : Room k X.A) (hG : DG g (quietX X) noW tg Gc is) (hB : DSs g (quietX X) noW body kb) (I : Inv X pins σ H sc) (E : EnvR g rho H de σ)
    (N : GNew g X.prog X.w X.base k X.stack sc H rho h2 ys u s1) (A : AftS g W rho H Ds (loopS ⟨none, ys⟩ Gc (onlyNx kb) ks ys de h2)) :
    ∃ a gn, u = .ref a ∧ s1.heap.IsGen a gn ∧ codeAny (model X.prog X.w) X.A (.forLoop tg (.ref a) body [] X.env) (fun r s' => match r with | .ok f => SP X pins Ds f s' | .error e => cameBackBy (model X.prog X.w) X.A X.env X.xe e s') s1 := by
  obtain ⟨a, gn, go, c, nm, qn, eu, ha, hgo, hgc, hgd0, hgs, hfr, os1, bare1, keep1, wake⟩ := N
  have isGen : ∀ {hh : Heap}, hh.get? a = some go → hh.IsGen a gn := fun e => ⟨go, nm, qn, e, hgc, hgd0, hgs⟩
  refine ⟨a, gn, eu, isGen hgo, ?_⟩
  have hd : X.A.handled = none := I.ok.hd cx.calm
  have hdep : X.A.depth < recursionLimit := hr.depth
  have nL : X.env.locals ≠ a := fun z => Nat.lt_irrefl _ (by have := Nat.lt_trans I.lt ha; rw [z] at this; exact this)
  have nf : a ∉ X.fs := I.nofs (Nat.le_of_lt ha)
  have ncell : ∀ v, go.data ≠ .cell v := fun v q => by rw [hgd0] at q; cases q
  have fpa := fun (H' : Hp) (hn : H' a = none) => I.fpOk (H' := H') (b := a) (Nat.le_of_lt ha) hn
  have stepB : ∀ {ys0 zs : List D} {v : Value} {s5 : Shared} {n : Nat} (ho : s5.heap.get? a = some go) (hn : zs.length < n) (hb : wpAny (model X.prog X.w) X.A (assign tg X.env v) (fun _ s6 => wpAny (model X.prog X.w) X.A (execs body X.env) (fun f s7 => (f = .next ∨ f = .cont) ∧ Slp g X W (pins ++ [(a, go)]) Gc kb ks ys0 Ds gn zs s7) (fun _ _ => False) s6) (fun _ _ => False) s5),
      wpAny (model X.prog X.w) X.A (letOwnedTupleGo tg (.ref a) v) (fun _ s₁' =>
          wpAny (model X.prog X.w) X.A (assign tg X.env v) (fun _ s₂ => wpAny (model X.prog X.w) X.A (execs body X.env) (fun f s₃ => match f with
            | .next | .cont => ∃ m, m < n ∧ ((m = ys.length + 1 ∧ s₃ = s1) ∨ ∃ zs, m = zs.length ∧ Slp g X W (pins ++ [(a, go)]) Gc kb ks ys0 Ds gn zs s₃)
            | .brk => SP X pins Ds .next s₃
            | .ret v => SP X pins Ds (.ret v) s₃) (notedBy (model X.prog X.w) X.A X.env fun e s' => cameBackBy (model X.prog X.w) X.A X.env X.xe e s') s₂) (notedBy (model X.prog X.w) X.A X.env fun e s' => cameBackBy (model X.prog X.w) X.A X.env X.xe e s') s₁') (notedBy (model X.prog X.w) X.A X.env fun e s' => cameBackBy (model X.prog X.w) X.A X.env X.xe e s') s5 := fun {ys0 zs v s5 n} ho hn hb => by
    refine go_of ho hgc hgd0 (by decide) ?_
    refine wpAny_mono hb (fun _ s6 h6 => wpAny_mono h6 (fun f s7 ⟨hf, q⟩ => ?_) fun _ _ z => z.elim) fun _ _ z => z.elim
    rcases hf with rfl | rfl
    · exact ⟨zs.length, hn, .inr ⟨zs, rfl, q⟩⟩
    · exact ⟨zs.length, hn, .inr ⟨zs, rfl, q⟩⟩
  refine codeAny_forLoop_any (fun n s' => (n = ys.length + 1 ∧ s' = s1) ∨ ∃ zs, n = zs.length ∧ Slp g X W (pins ++ [(a, go)]) Gc kb ks ys Ds gn zs s') ?_ (ys.length + 1) (.inl ⟨rfl, rfl⟩)
  intro n s hs
  rcases hs with ⟨rfl, rfl⟩ | ⟨zs, rfl, σ', H', rho', de', h', k', l, c', p, fs, TT, L, it, I', fL, fi, pr, hg, hT, Sm, E', A', later⟩
  · -- the first turn
    have hgl : gn < s.gens.size := (Array.getElem?_eq_some_iff.mp hfr).1
    have lim : s.heap.NoLimit := I.nolimit.keeps keep1
    refine wpAny_gsz (n := gn + 1) hgl (next_O hd lim hdep (isGen hgo) hfr (wake X.A (s.setGen gn .running) hr cx.gd I.ok.frames rfl os1 (allBare_setGen bare1 rfl)) ?_ ?_ ?_)
    · intro e s₁ he
      obtain ⟨rho1, H1, q1, q2, q3, q4, q5, q6, q7, q8⟩ := he
      cases ys with
      | nil => rw [q8]; exact ⟨rfl, fun x z => by cases z⟩
      | cons y0 zs =>
        obtain ⟨y, v, x, l, k2, c2, p2, fs2, TT, it, _, rfl, e1, e2, _⟩ := q8
        exact ⟨by show (!(false || fs2.any Frame.guarded)) = true; rw [e2]; rfl, fun x z => by cases z⟩
    · intro r s₁ he
      obtain ⟨rho1, H1, q1, q2, q3, q4, q5, q6, q7, q8⟩ := he
      cases ys with
      | cons y0 zs =>
        obtain ⟨y, v, x, l, k2, c2, p2, fs2, TT, it, _, e0, _⟩ := q8
        cases e0
      | nil =>
        cases q8
        refine ⟨.inl rfl, fun h' hk _ => wpAny_execs_nil (loop_end (A.later q2) q1 (E.ext q2) ?_)⟩
        exact I.call' (s' := { s₁.setGen gn .finished with heap := h' }) (ch := []) q3 (q5.trans (Un.kept hk)) (q6.kept hk) (allBare_setGen q4 rfl) fun b z => by simp at z
    · intro v gd l k2 c2 p2 fs2 s₁ he hsz
      obtain ⟨rho1, H1, q1, q2, q3, q4, q5, q6, q7, q8⟩ := he
      cases ys with
      | nil => cases q8
      | cons y0 zs =>
        obtain ⟨y, v', x, l', k3, c3, p3, fs3, TT, it, rfl, e0, e1, e2, C, hT, hL, hi, pr, rx, rp, pn, later⟩ := q8
        cases e0
        have ha7 := q7 (a, go) (by simp)
        have I5 : Inv X pins σ H1 (s₁.setGen gn (.suspended k2 l c2 p2 fs2 (false || fs2.any Frame.guarded))) := I.call' (ch := []) q3 q5 q6 (allBare_setGen q4 (by show (!(false || fs2.any Frame.guarded)) = true; rw [e2]; rfl)) fun b z => by simp at z
        have I5' : Inv X (pins ++ [(a, go)]) σ H1 (s₁.setGen gn (.suspended k2 l c2 p2 fs2 (false || fs2.any Frame.guarded))) := I5.pins_of fun p hp => (List.mem_append.mp hp).elim (fun z => I5.pin p (List.mem_append_right _ z)) fun z => by
          rw [List.mem_singleton.mp z]
          exact ⟨ha7.1, ha7.2, nL.symm, nf, ncell⟩
        have fpp : ∀ b, sc.heap.objs.size ≤ b → H1 b = none → a ≠ b → FpOk X (pins ++ [(a, go)]) H1 b := fun b hb hn hne => by
          obtain ⟨z0, z1, z2, z3, z4, z5⟩ := I.fpOk (H' := H1) hb hn
          refine ⟨z0, z1, z2, z3, z4, fun p hp => ?_⟩
          rcases List.mem_append.mp hp with hp | hp
          · exact z5 p (List.mem_append_left _ hp)
          · rcases List.mem_append.mp hp with hp | hp
            · exact z5 p (List.mem_append_right _ hp)
            · rw [List.mem_singleton.mp hp]; exact hne
        have pna := pn (a, go) (by simp)
        refine stepB ha7.1 (by show zs.length < zs.length + 1 + 1; omega) (body_ok (l := l) (p := p2) cx hG hB I5' (fpp _ (Nat.le_refl _) hL pna.1) (fpp it (Nat.le_of_lt C.lt) hi pna.2) pr ?_ hT q1 (E.ext q2) rp rx (A.later q2) fun s2 Wk2 => later s2 ⟨Wk2.os, Wk2.bare, Wk2.fr, Wk2.it, Wk2.tup, Wk2.bas, Wk2.funs⟩)
        have hsz' : gn + 1 ≤ s₁.gens.size := by
          have : (s₁.setGen gn (.suspended k2 l c2 p2 fs2 (false || fs2.any Frame.guarded))).gens.size = s₁.gens.size := setGen_size _ _ _
          rw [← this]; exact hsz
        rw [setGen_at hsz', e2]; rfl
  · -- a later turn
    have hgl : gn < s.gens.size := (Array.getElem?_eq_some_iff.mp hg).1
    have hgo' : s.heap.get? a = some go := (I'.pin (a, go) (List.mem_append_right _ (List.mem_append_right _ (List.mem_singleton.mpr rfl)))).1
    have hfrs : ∀ b ∈ frs X.stack, H' b = none := I'.stkFree
    have hch : ∀ b ∈ [L, it], (b ∈ X.ex ∨ X.s_0.heap.objs.size ≤ b) ∧ b ≠ X.env.locals ∧ (∀ x c, X.env.cells.lookup x = some c → c ≠ b) ∧ ∀ p ∈ X.pn ++ (pins ++ [(a, go)]), p.1 ≠ b := fun b hb => by
      rcases List.mem_cons.mp hb with rfl | hb
      · exact ⟨fL.2.2.2.1, fL.2.1, fL.2.2.2.2.1, fL.2.2.2.2.2⟩
      · rw [List.mem_singleton.mp hb]; exact ⟨fi.2.2.2.1, fi.2.1, fi.2.2.2.2.1, fi.2.2.2.2.2⟩
    have go1 := later (s.gens.setIfInBounds gn .running) (allBare_setGen I'.bare rfl)
    refine wpAny_gsz (n := gn + 1) hgl (next_O hd I'.nolimit hdep (isGen hgo') hg go1 ?_ ?_ ?_)
    · intro e s₁ he
      cases zs with
      | nil => obtain ⟨rfl, _⟩ := he; exact ⟨rfl, fun x z => by cases z⟩
      | cons y0 zs =>
        cases y0 with
        | tup y =>
          obtain ⟨v, l, k2, c2, p2, fs2, rfl, e1, e2, _⟩ := he
          exact ⟨by show (!(false || fs2.any Frame.guarded)) = true; rw [e2]; rfl, fun x z => by cases z⟩
        | _ => exact he.elim
    · intro r s₁ he
      cases zs with
      | nil =>
        obtain ⟨er, F⟩ := he
        cases er
        obtain ⟨un, hok⟩ := lf_un F hT I'.hok fL.1 fi.1 hfrs
        refine ⟨.inl rfl, fun hh hk _ => wpAny_execs_nil (loop_end A' Sm E' (Inv.unpinned (pl := [(a, go)]) ?_))⟩
        exact I'.call' (s' := { s₁.setGen gn .finished with heap := hh }) (ch := [L, it]) F.os (un.trans (Un.kept hk)) (hok.kept hk) (allBare_setGen F.bare rfl) hch
      | cons y0 zs =>
        cases y0 with
        | tup y =>
          obtain ⟨v, l, k2, c2, p2, fs2, er, _⟩ := he
          cases er
        | _ => exact he.elim
    · intro v gd l2 k2 c2 p2 fs2 s₁ he hsz
      cases zs with
      | nil => obtain ⟨er, _⟩ := he; cases er
      | cons y0 zs =>
        cases y0 with
        | tup y =>
          obtain ⟨v', l3, k3, c3, p3, fs3, er, e1, e2, F, pr2, V, later2⟩ := he
          cases er
          obtain ⟨H2, x, rx, un, hok, S2, ex, rp, hT2, hL2, hi2⟩ := lf_val F hT I'.hok fL.1 fi.1 hfrs pr Sm V
          have I5 : Inv X (pins ++ [(a, go)]) σ' H2 (s₁.setGen gn (.suspended k2 l2 c2 p2 fs2 (false || fs2.any Frame.guarded))) := I'.call' (ch := [L, it]) F.os un hok (allBare_setGen F.bare (by show (!(false || fs2.any Frame.guarded)) = true; rw [e2]; rfl)) hch
          refine stepB (I5.pin (a, go) (List.mem_append_right _ (List.mem_append_right _ (List.mem_singleton.mpr rfl)))).1 (by show zs.length < zs.length + 1; omega) (body_ok (l := l2) (p := p2) cx hG hB I5 ⟨hL2, fL.2⟩ ⟨hi2, fi.2⟩ pr2 ?_ hT2 S2 (E'.ext ex) rp rx (A'.later ex) fun s2 Wk2 => later2 s2 ⟨Wk2.os, Wk2.bare, Wk2.fr, Wk2.it, Wk2.tup, Wk2.bas, Wk2.funs⟩)
          have hsz' : gn + 1 ≤ s₁.gens.size := by
            have : (s₁.setGen gn (.suspended k2 l2 c2 p2 fs2 (false || fs2.any Frame.guarded))).gens.size = s₁.gens.size := setGen_size _ _ _
            rw [← this]; exact hsz
          rw [setGen_at hsz', e2]; rfl
        | _ => exact he.elim
theorem ds_forG {k : Nat} {c : Nat} {m : Str} {F : List D → Hh → Rs (List D)} {o e : Expr} {es : List Expr} {fo : Env' → Hh → Rs D} {fs : Env' → Hh → Rs (List D)} {apos cpos pos : Pos} {pl : Sem Bool} (ks : List Nat) (Ge : GeA g X.prog X.w X.mg X.base k c m F) (cl : Cls g.K (g.ca c)) (nm : ∀ f, f < g.nf → g.nm f ≠ m) (hr : Room k X.A) (ho : DE g X W o fo) (ha : DA g X W (e :: es) fs)
    (hG : DG g (quietX X) noW tg Gc is) (hB : DSs g (quietX X) noW body kb)
    (hst : starEach (e :: es) X.env = (false, eval e X.env) :: starEach es X.env := by rfl) (hpl : (backTo cpos (starEach es X.env)).any (·.1) = false := by rfl)
    (ht : eval (.Call (.Attribute o m apos) (e :: es) [] cpos) X.env = (do
      let ov ← eval o X.env
      standAt apos.atName
      let (f, first) ← holding [ov] (getMethod ov m pl)
      callWith cpos f first (backTo cpos (starEach (e :: es) X.env)) (backToKw cpos (keywordEach [] X.env))) := by rfl)
    (hs : ∀ x, foldedSetIterable (.Call (.Attribute o m apos) (e :: es) [] cpos) X.env x = pure x := by intro _; rfl) :
    DS g X W (.For tg (.Call (.Attribute o m apos) (e :: es) [] cpos) body [] pos) (sForG c F fo fs Gc kb ks) := ⟨fun cx => ⟨fun pins s σ H Ds I hok => by
  obtain ⟨rho, de, h, S, E, A⟩ := hok
  obtain ⟨f, fd, ps, F', gok, hm, hb, eq⟩ := Ge.ex
  have he : okE g W fo σ H fun x H1 => ∃ rho1 d h1, Sim g rho1 h1 H1 ∧ EnvR g rho1 H1 de σ ∧ Rp g rho1 H1 d x ∧ AftS g W rho1 H1 Ds (match insOf h1 d with
      | some (_, c', _) => if c' = c then (fs de h1).st de fun ds h2 => (match F (d :: ds) h2 with
        | .ok ys h3 => loopS ⟨none, ys⟩ Gc (onlyNx kb) ks ys de h3
        | _ => .no) else .no
      | none => .no) := okE.st S E A fun rho1 H1 d v h1 S1 e1 E1 r1 A1 => ⟨rho1, d, h1, S1, E1, r1, A1⟩
  refine wpAny_For (PySem.W.methodCall_KW (pl := pl) (thn ((ho.pe cx).run pins s σ H _ I he) fun u s1 h1 => ?_) ht) hs
  obtain ⟨x, H1, I1, rx, rho1, d, h1', S1, E1, r1, A1⟩ := h1
  cases q1 : insOf h1' d with
  | none => rw [q1] at A1; exact A1.elim
  | some pp =>
    obtain ⟨i, c', gs⟩ := pp
    rw [q1] at A1
    have A2 : AftS g W rho1 H1 Ds (if c' = c then (fs de h1').st de fun ds h2 => (match F (d :: ds) h2 with
        | .ok ys h3 => loopS ⟨none, ys⟩ Gc (onlyNx kb) ks ys de h3
        | _ => .no) else .no) := A1
    by_cases z : c' = c
    · subst z
      rw [if_pos rfl] at A2
      obtain ⟨rfl, q2⟩ := insOf_inv q1
      obtain ⟨a, dx, ws, rfl, h3, h4, h5, h6⟩ := ref_ins S1 r1 q2
      obtain rfl : u = Value.ref a := rx
      have cl' : Cls X.K (g.ca c') := by rw [← cx.K]; exact cl
      have hm' : Meth X.K (g.ca c') m f := by rw [← cx.K]; exact hm
      refine getmeth_ok I1 h4 cl' hm' (h6.names nm) ?_
      have hl : okL g W fs σ H1 fun vs H2 => ∃ rho2 ds h2, Sim g rho2 h2 H2 ∧ Ext rho1 H1 rho2 H2 ∧ EnvR g rho2 H2 de σ ∧ RpL g rho2 H2 ds vs ∧ AftS g W rho2 H2 Ds (match F (.ref i :: ds) h2 with
        | .ok ys h3 => loopS ⟨none, ys⟩ Gc (onlyNx kb) ks ys de h3
        | _ => .no) := okL.st S1 E1 A2 fun rho2 H2 ds vs h2 S2 e2 E2 r2 A3 => ⟨rho2, ds, h2, S2, e2, E2, r2, A3⟩
      refine PySem.W.callWith_K (first := [.ref a]) (h₀ := X.base) I1.ok.mod.kin hm'.kp (thn ((ha.pa cx).run cpos pins s1 σ H1 _ I1 hl) fun us s2 ⟨vs, H2, I2, r, q⟩ => ⟨I2.kIn, ?_⟩) hst hpl
      obtain ⟨rho2, ds, h2, S2, e2, E2, r2, A3⟩ := q
      cases q3 : F (.ref i :: ds) h2 with
      | no => simp only [q3] at A3; exact A3.elim
      | ex _ _ => simp only [q3] at A3; exact A3.elim
      | ok ys h3' =>
        simp only [q3] at A3
        rw [eq] at q3
        split at q3
        · rename_i hlen
          have r3 : RpL g rho2 H2 (.ref i :: ds) (.ref a :: vs) := RpL.cons (Rp.ext e2 _ _ r1) r2
          have hl2 : (V.ref a :: vs).length = ps.length := by rw [← r3.length]; exact hlen
          have rv : Vals (V.ref a :: vs) (Value.ref a :: us) := .cons rfl r
          have hb' := hb s2 (Value.ref a :: us) (by rw [cx.K]; exact I2.kIn) (by rw [List.append_nil, ← rv.length]; exact hl2)
          rw [List.append_nil] at hb'
          have e0 : Env0 X.prog X.w g.K X.mg X.base X.A X.stack s2 H2 := by rw [cx.K]; exact I2.env0
          refine wpAny_call (codeAny_mono (gok.run X.A X.stack s2 H2 ⟨Value.ref a :: us, []⟩ (Value.ref a :: us) (V.ref a :: vs) rho2 (.ref i :: ds) h2 h3' ys hr e0 hb' rv hl2 S2 r3 q3) fun rr s3 hq => ?_)
          cases rr with
          | error e => exact hq.elim
          | ok fl =>
            cases fl with
            | ret w' =>
              obtain ⟨b, gn, rfl, ig, lp⟩ := gen_loop cx hr hG hB I2 E2 hq A3
              exact wpAny_pyIter_gen ig lp
            | next => exact hq.elim
            | brk => exact hq.elim
            | cont => exact hq.elim
        · cases q3
    · rw [if_neg z] at A2
      exact A2.elim⟩⟩
end
end DL

set_option maxHeartbeats 2000000
/-! min and max of a list or tuple of alike data. -/
namespace DL
open PySem PySem.Spec PyProof.Rows L2
open PySem.SeqAt
open PySem.W (alike dataLe dataLt)
def bestOk (h : Hh) (xs : List D) : Bool := lim xs.length && xs.all (fun d => (dp h 12 d).isSome) && xs.all (fun a => xs.all fun b => alike (datD h a) (datD h b)) && xs.all fun d => match datD h d with
  | .none => false
  | _ => true
/-- the first of the least -/
def minOf (h : Hh) (x : D) (xs : List D) : D := xs.foldl (fun a y => if dataLt (datD h y) (datD h a) then y else a) x
/-- the first of the greatest -/
def maxOf (h : Hh) (x : D) (xs : List D) : D := xs.foldl (fun a y => if dataLt (datD h a) (datD h y) then y else a) x
def bMinD : FB := fun ds h => match ds with
  | [d] => (match seqOf h d with
    | some (x :: xs) => if bestOk h (x :: xs) then some (minOf h x xs, h) else none
    | _ => none)
  | _ => none
def bMaxD : FB := fun ds h => match ds with
  | [d] => (match seqOf h d with
    | some (x :: xs) => if bestOk h (x :: xs) then some (maxOf h x xs, h) else none
    | _ => none)
  | _ => none
theorem bestOk_inv {h : Hh} {xs : List D} (e : bestOk h xs = true) : xs.length ≤ sizeLine ∧ (∀ d ∈ xs, ∃ p, dp h 12 d = some p ∧ datD h d = p) ∧ PySem.W.AlikeAll (xs.map (datD h)) := by
  unfold bestOk at e
  simp only [Bool.and_eq_true, List.all_eq_true] at e
  obtain ⟨⟨⟨e1, e2⟩, e3⟩, e4⟩ := e
  refine ⟨lim_le e1, fun d hd => ?_, fun a ha b hb => ?_, fun a ha => ?_⟩
  · cases q : dp h 12 d with
    | none => have := e2 d hd; rw [q] at this; cases this
    | some p => exact ⟨p, rfl, by unfold datD; rw [q]; rfl⟩
  · obtain ⟨x, hx, rfl⟩ := List.mem_map.mp ha
    obtain ⟨y, hy, rfl⟩ := List.mem_map.mp hb
    exact e3 x hx y hy
  · obtain ⟨x, hx, rfl⟩ := List.mem_map.mp ha
    have := e4 x hx
    intro z
    rw [z] at this
    cases this
section
variable {g : G} {X : Cx} {W : WX} {rho : Rho} {H : Hp} {h : Hh}
theorem reads_of {pins : List (Addr × Obj)} {σ : L2.St} {s : Shared} (I : Inv X pins σ H s) (S : Sim g rho h H) : ∀ {xs : List D} {vs : List V} {us : List Value}, RpL g rho H xs vs → Vals vs us → (∀ d ∈ xs, ∃ p, dp h 12 d = some p ∧ datD h d = p) → ∃ as, ReadsAll s.heap us (xs.map (datD h)) as
  | [], vs, us, r, t, _ => by
    rw [r.inv0] at t
    cases t
    exact ⟨[], .nil⟩
  | d :: xs, vs, us, r, t, hp => by
    obtain ⟨v, w, rfl, r1, r2⟩ := r.inv
    cases t with
    | cons a b =>
      obtain ⟨p, e1, e2⟩ := hp d List.mem_cons_self
      obtain ⟨as, h1⟩ := Dp.reads I p v _ (dp_ok (K := X.K) S 12 d v p r1 e1) a
      obtain ⟨bs, h2⟩ := reads_of I S r2 b fun d' hd => hp d' (List.mem_cons_of_mem _ hd)
      exact ⟨as ++ bs, .cons (by rw [e2]; exact h1) h2⟩
theorem depth_all : ∀ {xs : List D}, (∀ d ∈ xs, ∃ p, dp h 12 d = some p ∧ datD h d = p) → PyData.depthAll (xs.map (datD h)) ≤ 12
  | [], _ => Nat.zero_le _
  | d :: xs, hp => by
    obtain ⟨p, e1, e2⟩ := hp d List.mem_cons_self
    have h1 := dp_depth 12 d p e1
    have h2 := depth_all (xs := xs) fun d' hd => hp d' (List.mem_cons_of_mem _ hd)
    show max (datD h d).depth (PyData.depthAll (xs.map (datD h))) ≤ 12
    rw [e2]
    exact Nat.max_le.mpr ⟨h1, h2⟩
theorem getD_dat (xs : List D) (i : Nat) (d0 : D) (hi : i < xs.length) : (xs.map (datD h)).getD i .none = datD h (xs.getD i d0) := by
  rw [List.getD_eq_getElem?_getD, List.getElem?_map, List.getD_eq_getElem?_getD, List.getElem?_eq_getElem hi]
  rfl
theorem argBest_lt {bt bt' : Nat → Nat → Bool} {n : Nat} (hb : ∀ i j, i < n → j < n → bt i j = bt' i j) : ∀ k, k < n → argBest bt k = argBest bt' k ∧ argBest bt k ≤ k
  | 0, _ => ⟨rfl, Nat.le_refl _⟩
  | k + 1, hk => by
    obtain ⟨e, l⟩ := argBest_lt hb k (Nat.lt_of_succ_lt hk)
    have ll : argBest bt k < n := Nat.lt_of_le_of_lt l (Nat.lt_of_succ_lt hk)
    show (if bt (k + 1) (argBest bt k) = true then k + 1 else argBest bt k) = (if bt' (k + 1) (argBest bt' k) = true then k + 1 else argBest bt' k) ∧ (if bt (k + 1) (argBest bt k) = true then k + 1 else argBest bt k) ≤ k + 1
    rw [← e, hb _ _ hk ll]
    refine ⟨rfl, ?_⟩
    split
    · exact Nat.le_refl _
    · exact Nat.le_succ_of_le l
theorem best_fold (f : D → D → Bool) (f' : PyData → PyData → Bool) (hf : ∀ a b, f a b = f' (datD h a) (datD h b)) (x : D) (xs : List D) (d0 : D) :
    argBest (fun i j => f' (((x :: xs).map (datD h)).getD i .none) (((x :: xs).map (datD h)).getD j .none)) xs.length ≤ xs.length ∧
    (x :: xs).getD (argBest (fun i j => f' (((x :: xs).map (datD h)).getD i .none) (((x :: xs).map (datD h)).getD j .none)) xs.length) d0 = xs.foldl (fun a y => if f y a then y else a) x := by
  obtain ⟨e, l⟩ := argBest_lt (n := xs.length + 1) (bt := fun i j => f' (((x :: xs).map (datD h)).getD i .none) (((x :: xs).map (datD h)).getD j .none)) (bt' := fun i j => f ((x :: xs).getD i d0) ((x :: xs).getD j d0)) (fun i j hi hj => by
    show f' (((x :: xs).map (datD h)).getD i .none) (((x :: xs).map (datD h)).getD j .none) = f ((x :: xs).getD i d0) ((x :: xs).getD j d0)
    rw [getD_dat (x :: xs) i d0 hi, getD_dat (x :: xs) j d0 hj, hf]) xs.length (Nat.lt_succ_self _)
  refine ⟨l, ?_⟩
  rw [e]
  have := (PySem.W.argBest_fold f d0 x xs xs.length (Nat.le_refl _)).2
  rw [List.take_length] at this
  exact this
theorem best_item {vs : List V} {us : List Value} {xs : List D} {x : D} {i : Nat} {u : Value} (r : RpL g rho H (x :: xs) vs) (rv : Vals vs us) (hu : us[i]? = some u) (hi : i ≤ xs.length) (d0 : D) : ∃ v, RelV v u ∧ Rp g rho H ((x :: xs).getD i d0) v := by
  have hx : (x :: xs)[i]? = some ((x :: xs).getD i d0) := by
    rw [List.getD_eq_getElem?_getD, List.getElem?_eq_getElem (by show i < xs.length + 1; omega)]
    rfl
  obtain ⟨v, e1, r1⟩ := r.get hx
  obtain ⟨u', e2, r2⟩ := rv.get e1
  rw [hu] at e2
  cases e2
  exact ⟨v, r2, r1⟩
theorem bMinD_ok (cx : Cok g X W) : CalD g X (.builtin "min") bMinD := by
  intro pins s sg H vs us Q I rv hh
  obtain ⟨rho, h, ds, d, h', S, r, eq, A⟩ := hh
  unfold bMinD at eq
  split at eq
  · rename_i y
    split at eq
    · rename_i x xs q
      split at eq
      · rename_i hz
        cases eq
        obtain ⟨z1, z2, z3⟩ := bestOk_inv hz
        obtain ⟨v, w, rfl, r1, r2⟩ := r.inv
        rw [r2.inv0] at rv
        obtain ⟨u, rfl, ru⟩ := vals1 rv
        obtain ⟨a, ws, rfl, t, l⟩ := seq_ok S r1 q
        cases ru
        have hu : X.A.units + 1 + PyData.depthAll ((x :: xs).map (datD h)) < cLine := by
          have := depth_all z2
          have := cx.room.un
          omega
        have fin : ∀ {its : List Value} {i : Nat} {u : Value} {h' : Heap} {tk : Nat}, Vals ws its → its[i]? = some u → i = argBest (fun i j => dataLt (((x :: xs).map (datD h)).getD i .none) (((x :: xs).map (datD h)).getD j .none)) xs.length → (∀ b o, s.heap.get? b = some o → h'.get? b = some o) → EP X pins sg Q u { s with heap := h', toks := tk } := fun {its i u h' tk} rvs hi ei hk => by
          obtain ⟨b1, b2⟩ := best_fold (h := h) (fun a b => dataLt (datD h a) (datD h b)) dataLt (fun _ _ => rfl) x xs .non
          obtain ⟨v, r3, r4⟩ := best_item l rvs hi (by rw [ei]; exact b1) .non
          rw [ei, b2] at r4
          exact ⟨v, H, I.kept (t' := tk) hk, r3, A rho H v S (Ext.refl _ _) r4⟩
        have hh := cx.room.hd
        rcases t with t | t
        · obtain ⟨its, rvs, p, hzz⟩ := I.list (.inl (.inl t))
          obtain ⟨as, hr⟩ := reads_of I S l rvs z2
          have hn : its.toArray.size = xs.length + 1 := by rw [List.size_toArray, ← rvs.length, ← l.length]; rfl
          refine PySem.call_min_walkH (PySem.W.iter_listW (A := X.A.in1) hh p.isList fun s₂ e Wk st hfp hw hk => ?_)
          refine ⟨_, _, _, _, _, _, _, s.heap, _, rfl, Wk, st, hfp, by omega, hw, hk, PySem.W.cmpIn_lt (A := X.A.in1) (vs := its.toArray) (xs := (x :: xs).map (datD h)) (by rw [List.toList_toArray]; exact hr) z3 hu, fun v s' hP m => ?_⟩
          obtain ⟨h', tk, rfl, hk'⟩ := PySem.W.moved_old e rfl m
          exact fin rvs (by rw [← List.getElem?_toArray]; exact hP) (by rw [hn]; rfl) hk'
        · obtain ⟨its, rvs, p, hzz⟩ := I.tuple (.inl (.inl t))
          obtain ⟨as, hr⟩ := reads_of I S l rvs z2
          have hn : its.toArray.size = xs.length + 1 := by rw [List.size_toArray, ← rvs.length, ← l.length]; rfl
          refine PySem.call_min_walkH (PySem.W.iter_tupleW (A := X.A.in1) hh p fun s₂ e Wk st hfp hw hk => ?_)
          refine ⟨_, _, _, _, _, _, _, s.heap, _, rfl, Wk, st, hfp, by omega, hw, hk, PySem.W.cmpIn_lt (A := X.A.in1) (vs := its.toArray) (xs := (x :: xs).map (datD h)) (by rw [List.toList_toArray]; exact hr) z3 hu, fun v s' hP m => ?_⟩
          obtain ⟨h', tk, rfl, hk'⟩ := PySem.W.moved_old e rfl m
          exact fin rvs (by rw [← List.getElem?_toArray]; exact hP) (by rw [hn]; rfl) hk'
      · cases eq
    · cases eq
  · cases eq
theorem bMaxD_ok (cx : Cok g X W) : CalD g X (.builtin "max") bMaxD := by
  intro pins s sg H vs us Q I rv hh
  obtain ⟨rho, h, ds, d, h', S, r, eq, A⟩ := hh
  unfold bMaxD at eq
  split at eq
  · rename_i y
    split at eq
    · rename_i x xs q
      split at eq
      · rename_i hz
        cases eq
        obtain ⟨z1, z2, z3⟩ := bestOk_inv hz
        obtain ⟨v, w, rfl, r1, r2⟩ := r.inv
        rw [r2.inv0] at rv
        obtain ⟨u, rfl, ru⟩ := vals1 rv
        obtain ⟨a, ws, rfl, t, l⟩ := seq_ok S r1 q
        cases ru
        have hu : X.A.units + 1 + PyData.depthAll ((x :: xs).map (datD h)) < cLine := by
          have := depth_all z2
          have := cx.room.un
          omega
        have fin : ∀ {its : List Value} {i : Nat} {u : Value} {h' : Heap} {tk : Nat}, Vals ws its → its[i]? = some u → i = argBest (fun i j => dataLt (((x :: xs).map (datD h)).getD j .none) (((x :: xs).map (datD h)).getD i .none)) xs.length → (∀ b o, s.heap.get? b = some o → h'.get? b = some o) → EP X pins sg Q u { s with heap := h', toks := tk } := fun {its i u h' tk} rvs hi ei hk => by
          obtain ⟨b1, b2⟩ := best_fold (h := h) (fun a b => dataLt (datD h b) (datD h a)) (fun a b => dataLt b a) (fun _ _ => rfl) x xs .non
          obtain ⟨v, r3, r4⟩ := best_item l rvs hi (by rw [ei]; exact b1) .non
          rw [ei, b2] at r4
          exact ⟨v, H, I.kept (t' := tk) hk, r3, A rho H v S (Ext.refl _ _) r4⟩
        have hh := cx.room.hd
        rcases t with t | t
        · obtain ⟨its, rvs, p, hzz⟩ := I.list (.inl (.inl t))
          obtain ⟨as, hr⟩ := reads_of I S l rvs z2
          have hn : its.toArray.size = xs.length + 1 := by rw [List.size_toArray, ← rvs.length, ← l.length]; rfl
          refine PySem.call_max_walkH (PySem.W.iter_listW (A := X.A.in1) hh p.isList fun s₂ e Wk st hfp hw hk => ?_)
          refine ⟨_, _, _, _, _, _, _, s.heap, _, rfl, Wk, st, hfp, by omega, hw, hk, PySem.W.cmpIn_gt (A := X.A.in1) (vs := its.toArray) (xs := (x :: xs).map (datD h)) (by rw [List.toList_toArray]; exact hr) z3 hu, fun v s' hP m => ?_⟩
          obtain ⟨h', tk, rfl, hk'⟩ := PySem.W.moved_old e rfl m
          exact fin rvs (by rw [← List.getElem?_toArray]; exact hP) (by rw [hn]; rfl) hk'
        · obtain ⟨its, rvs, p, hzz⟩ := I.tuple (.inl (.inl t))
          obtain ⟨as, hr⟩ := reads_of I S l rvs z2
          have hn : its.toArray.size = xs.length + 1 := by rw [List.size_toArray, ← rvs.length, ← l.length]; rfl
          refine PySem.call_max_walkH (PySem.W.iter_tupleW (A := X.A.in1) hh p fun s₂ e Wk st hfp hw hk => ?_)
          refine ⟨_, _, _, _, _, _, _, s.heap, _, rfl, Wk, st, hfp, by omega, hw, hk, PySem.W.cmpIn_gt (A := X.A.in1) (vs := its.toArray) (xs := (x :: xs).map (datD h)) (by rw [List.toList_toArray]; exact hr) z3 hu, fun v s' hP m => ?_⟩
          obtain ⟨h', tk, rfl, hk'⟩ := PySem.W.moved_old e rfl m
          exact fin rvs (by rw [← List.getElem?_toArray]; exact hP) (by rw [hn]; rfl) hk'
      · cases eq
    · cases eq
  · cases eq
end
end DL

set_option maxHeartbeats 2000000
/-! dict(a list of pairs) whose keys are tuples. -/
namespace DL
open PySem PySem.Spec PyProof.Rows L2
def mergePT : List (D × D) → List (D × D) → Option (List (D × D))
  | acc, [] => some acc
  | acc, (k, x) :: r => match tkeyOf k with
    | some c => mergePT (putP tkeyOf acc k c x) r
    | none => none
/-- dict([((a, b), v), ..]), never written -/
def bDictTZ : FB := fun ds h => match ds with
  | [d] => ((lstOf h d).bind fun xs => (mapO pairOf xs).bind fun ps => mergePT [] ps).map fun m => (.dct true (m.map (·.1)) (m.map (·.2)), h)
  | _ => none
def mergeT (kvs more : List (List Key × V)) : List (List Key × V) := more.foldl (fun acc kv => putK acc kv.1 kv.2) kvs
section
variable {g : G} {X : Cx} {W : WX}
theorem mergePT_ok {rho : Rho} {H : Hp} : ∀ {ps : List (D × D)} {vps : List (V × V)} {acc res : List (D × D)} {kk : List (List Key)} {ws : List V}, mergePT acc ps = some res → RPs g rho H ps vps → tkeysOf (acc.map (·.1)) = some kk → RpL g rho H (acc.map (·.2)) ws →
    ∃ (kvs : List (List Key × V)) (bs : List Addr) (kk' : List (List Key)) (ws' : List V), vps = (bs.zip kvs).map (fun z => (V.ref z.1, z.2.2)) ∧ bs.length = kvs.length ∧ Paired (fun b (kv : List Key × V) => H b = some (.tup (kv.1.map kV))) bs kvs ∧ kvs.length = ps.length ∧
      tkeysOf (res.map (·.1)) = some kk' ∧ RpL g rho H (res.map (·.2)) ws' ∧ kk'.zip ws' = mergeT (kk.zip ws) kvs
  | [], vps, acc, res, kk, ws, e, r, hk, hr => by
    cases e
    have : vps = [] := by
      have := r.1.length
      rw [List.length_map, List.length_map] at this
      exact List.eq_nil_of_length_eq_zero this.symm
    exact ⟨[], [], kk, ws, this, rfl, .nil, rfl, hk, hr, rfl⟩
  | (k, x) :: ps, vps, acc, res, kk, ws, e, r, hk, hr => by
    unfold mergePT at e
    cases q : tkeyOf k with
    | none => rw [q] at e; cases e
    | some c =>
      rw [q] at e
      obtain ⟨r1, r2⟩ := r
      cases vps with
      | nil => exact absurd (r1.length) (by simp)
      | cons vp vps =>
        obtain ⟨a1, b1, c1, d1, e1⟩ := RpL.inv (show RpL g rho H (k :: ps.map (·.1)) (vp.1 :: vps.map (·.1)) from r1)
        obtain ⟨a2, b2, c2, d2, e2⟩ := RpL.inv (show RpL g rho H (x :: ps.map (·.2)) (vp.2 :: vps.map (·.2)) from r2)
        cases c1
        cases c2
        obtain ⟨kk1, ws1, p1, p2, p3⟩ := put_ok q d2 hk hr
        obtain ⟨kvs, bs, kk2, ws2, q1, ql, qp, q2, q3, q4, q5⟩ := mergePT_ok e ⟨e1, e2⟩ p1 p2
        obtain ⟨b, eb, hb⟩ := tkeyOf_v q d1
        refine ⟨(c, vp.2) :: kvs, b :: bs, kk2, ws2, ?_, by rw [List.length_cons, List.length_cons, ql], .cons hb qp, by rw [List.length_cons, List.length_cons, q2], q3, q4, ?_⟩
        · rw [List.zip_cons_cons, List.map_cons, ← q1, ← eb]
        · rw [q5, p3]
          rfl
theorem KT_mergeT {H : Hp} : ∀ {more : List (List Key × V)} {ps : List (List Key × Addr × Value)} {kvs : List (List Key × V)} {xs : List (List Key × Addr × Value)}, KT H more ps → KT H kvs xs → KT H (mergeT kvs more) (storedAllH xs ps) := by
  intro more ps kvs xs r
  induction r generalizing kvs xs with
  | nil => intro q; exact q
  | @cons p q _ _ h t ih =>
    intro r2
    obtain ⟨h1, h2, h3⟩ := h
    show KT H (mergeT (putK kvs p.1 p.2) _) (storedAllH (storedH xs q.1 q.2.1 q.2.2) _)
    rw [← h1]
    exact ih (r2.put p.1 h2 h3)
theorem mergeT_len : ∀ (more kvs : List (List Key × V)), (mergeT kvs more).length ≤ kvs.length + more.length
  | [], kvs => Nat.le_refl _
  | p :: more, kvs => by
    have := mergeT_len more (putK kvs p.1 p.2)
    have : (putK kvs p.1 p.2).length ≤ kvs.length + 1 := by
      unfold putK
      split
      · rw [List.length_map]; omega
      · rw [List.length_append]; simp
    show (mergeT (putK kvs p.1 p.2) more).length ≤ kvs.length + (more.length + 1)
    omega
theorem pairs_ofT {pins : List (Addr × Obj)} {σ : L2.St} {H : Hp} {s : Shared} (I : Inv X pins σ H s) : ∀ {bs : List Addr} {kvs : List (List Key × V)} {as : List Addr}, Paired (fun b (kv : List Key × V) => H b = some (.tup (kv.1.map kV))) bs kvs →
    Paired (fun p (q : V × V) => SqT X.K H p [q.1, q.2]) as ((bs.zip kvs).map fun z => (V.ref z.1, z.2.2)) →
    ∃ prs : List (List Key × Addr × Value), KT H kvs prs ∧ prs.length = as.length ∧ ∀ (j : Nat) (q : List Key × Addr × Value), prs[j]? = some q → ∃ p, as[j]? = some p ∧ IsTup s.heap p #[.ref q.2.1, q.2.2] := by
  intro bs kvs as h
  induction h generalizing as with
  | nil =>
    intro t
    cases t
    exact ⟨[], .nil, rfl, fun j q e => by simp at e⟩
  | @cons b kv bs kvs hb _ ih =>
    intro t
    rw [List.zip_cons_cons, List.map_cons] at t
    cases t with
    | @cons p _ as _ hp t =>
      obtain ⟨prs, r, hl, hpr⟩ := ih t
      obtain ⟨its, rv, ht, _⟩ := I.tuple hp
      obtain ⟨u, y, ei, ru, ry⟩ := vals2 rv
      subst ei
      cases ru
      refine ⟨(kv.1, b, y) :: prs, .cons ⟨rfl, hb, ry⟩ r, by rw [List.length_cons, List.length_cons, hl], fun j q e => ?_⟩
      cases j with
      | zero =>
        have e' : (kv.1, b, y) = q := Option.some.inj e
        subst e'
        exact ⟨p, rfl, ht⟩
      | succ j =>
        obtain ⟨p', e1, e2⟩ := hpr j q (by simpa using e)
        exact ⟨p', by simpa using e1, e2⟩
theorem kt_key {H : Hp} : ∀ {kvs : List (List Key × V)} {prs : List (List Key × Addr × Value)}, KT H kvs prs → ∀ x ∈ prs, H x.2.1 = some (.tup (x.1.map kV)) := by
  intro kvs prs r
  induction r with
  | nil => intro x hx; cases hx
  | cons h _ ih =>
    intro x hx
    rcases List.mem_cons.mp hx with rfl | hx
    · rw [← h.1]; exact h.2.1
    · exact ih x hx
theorem bDictTZ_ok (cx : Cok g X W) : CalD g X (.type "dict") bDictTZ := by
  intro pins s sg H vs us Q I rv hh
  obtain ⟨rho, h, ds, d, h', S, r, eq, A⟩ := hh
  unfold bDictTZ at eq
  split at eq
  · rename_i x
    obtain ⟨m, e1, e2⟩ := Option.map_eq_some_iff.mp eq
    cases e2
    obtain ⟨v, w, rfl, r1, r2⟩ := r.inv
    rw [r2.inv0] at rv
    obtain ⟨u, rfl, ru⟩ := vals1 rv
    obtain ⟨xs, f1, f2⟩ := Option.bind_eq_some_iff.mp e1
    obtain ⟨ps, f3, f4⟩ := Option.bind_eq_some_iff.mp f2
    obtain ⟨a, ws, rfl, ha, l⟩ := lst_ok S r1 f1
    obtain ⟨as, vps, rfl, i1, i2⟩ := prs_of (K := X.K) f3 l
    obtain ⟨kvs, bs, kk, ws2, rfl, ql, qp, q2, q3, q4, q5⟩ := mergePT_ok f4 i1 (acc := []) (kk := []) (ws := []) rfl RpL.nil
    cases ru
    obtain ⟨its, rvs, pl, hz⟩ := I.list (.inl (.inl ha))
    have ei := refs_at rvs
    subst ei
    rw [List.length_map] at hz
    obtain ⟨prs, rel, hl, hpr⟩ := pairs_ofT I qp i2
    obtain ⟨o, n, ho, hc, hd, hdat⟩ := pl
    have hh := cx.room.hd
    have kl : kvs.length = prs.length := rel.length
    refine PySem.call_dict_pairsH (knd := tupleKind (mixKind X.prog X.w)) (ps := prs) (PySem.PairArg.list a (as.map Value.ref).toArray (fun j => as.getD j 0) (prs.map fun q => (Value.ref q.2.1, q.2.2))) hh (by show X.A.units + 1 + 1 < cLine; have := cx.room.un; omega) ⟨⟨o, n, ho, hc, hd, hdat⟩, by simp [hl], fun j k v e => ?_⟩ ⟨by simp, fun i key v e => ?_⟩ (fun h' hk x hx => ?_) (by simp [hl]; omega) fun h' tk hd' hk => ?_
    · rw [List.getElem?_map] at e
      cases q : prs[j]? with
      | none => rw [q] at e; cases e
      | some z =>
        rw [q] at e
        cases e
        obtain ⟨p, e1, e2⟩ := hpr j z q
        have ep : as.getD j 0 = p := by rw [List.getD_eq_getElem?_getD, e1]; rfl
        refine ⟨?_, .inl ?_⟩
        · show (as.map Value.ref).toArray[j]? = some (Value.ref (as.getD j 0))
          rw [ep]; simp [e1]
        · show s.heap.IsTuple (as.getD j 0) _
          rw [ep]; exact e2
    · have e' : (prs.map fun q => (Value.ref q.2.1, q.2.2))[i]? = some (key, v) := e
      rw [List.getElem?_map] at e'
      cases q : prs[i]? with
      | none => rw [q] at e'; cases e'
      | some z =>
        rw [q] at e'
        cases e'
        exact ⟨z.1, z.2.1, rfl, rfl⟩
    · exact key_of (I.hok.kept fun b u e => hk b u (Nat.ne_of_lt (Heap.lt_size e)) (by simp) e) (kt_key rel x hx)
    · have hp : H s.heap.objs.size = none := I.hok.fresh (Nat.le_refl _)
      have hm : (s.heap.objs.size == sysModules) = false := beq_eq_false_iff_ne.mpr (Nat.ne_of_gt I.big)
      have hlen : (mergeT [] kvs).length ≤ sizeLine := by
        have := mergeT_len kvs []
        rw [List.length_nil] at this
        omega
      have hk' : ∀ b u, s.heap.get? b = some u → h'.get? b = some u := fun b u e => hk b u (by simp) e
      obtain ⟨o2, es, ep, ho2, hc2, hd2, he2, _, hn2⟩ := hd'
      have kt := KT_mergeT rel (kvs := []) (xs := []) .nil
      have q5' : kk.zip ws2 = mergeT [] kvs := q5
      refine ⟨.ref s.heap.objs.size, upd H s.heap.objs.size (.dT (mergeT [] kvs)), I.laid (t' := tk) hk' (Nat.le_refl _) (show ObjOk X.prog X.w _ _ _ (.dT (mergeT [] kvs)) from ⟨hlen, hm, _, KT.keeps kt fun b ys e => by rw [upd_ne (ne_of_none e hp)]; exact e, o2, es, ep, ho2, hc2, hd2, he2, hn2⟩), rfl, ?_⟩
      rw [← q5']
      refine A rho _ _ (S.fresh hp) (Ext.fresh hp) ?_
      unfold Rp
      exact ⟨_, ws2, rfl, ⟨_, upd_same, S.off hp, by have := q4.length; simp at this ⊢; exact this, kk, q3, rfl⟩, q4.ext (Ext.fresh hp)⟩
  · cases eq
end
end DL

set_option maxHeartbeats 1000000
/-! xs[::-1] of a list, live or not. -/
namespace DL
open PySem PySem.Spec PyProof.Rows L2
section
variable {g : G} {X : Cx} {W : WX} {k : Nat} {x name : Str} {p p2 pos cpos apos : Pos} {e o i value : Expr} {es : List Expr} {lo hi : Option Expr} {fs : Env' → Hh → Rs (List D)} {fo fi f fa fb : Env' → Hh → Rs D}
def dStepL (fo fi : Env' → Hh → Rs D) : Env' → Hh → Rs D := fun de h => (fo de h).bd fun d h1 => (fi de h1).bd fun s h2 => ofO (match lstOf h2 d, s with
    | some xs, .int i => if i = 1 then some (.lst xs) else if i = -1 then some (.lst xs.reverse) else none
    | _, _ => none) h2
theorem de_stepL (he : DE g X W e fo) (hi : DE g X W i fi) : DE g X W (.Subscript e (.Slice none none (some i) p2) pos) (dStepL fo fi) := ⟨fun cx => ⟨fun pins s sg H Q I ⟨rho, de, h, S, E, A⟩ => by
  refine Subscript_ (thn ((he.pe cx).run pins s sg H (fun x H1 => ∃ rho1 h1 d, x = x ∧ Sim g rho1 h1 H1 ∧ EnvR g rho1 H1 de sg ∧ Rp g rho1 H1 d x ∧ Aft g rho1 H1 (Rp g) (fun c d H' => W c d sg H') ((fi de h1).bd fun s h2 => ofO (match lstOf h2 d, s with
    | some xs, .int i => if i = 1 then some (.lst xs) else if i = -1 then some (.lst xs.reverse) else none
    | _, _ => none) h2) Q) I (okE.bd S E A fun rho1 H1 d v h1 S1 e1 E1 r1 A1 => ⟨rho1, h1, d, rfl, S1, E1, r1, A1⟩)) fun v s1 ⟨x, H1, I1, r1, rho1, h1, d, _, S1, E1, rd, A1⟩ => ?_)
  refine wpAny_Slice (thn (po_none.run pins s1 sg H1 (fun o H2 => o = none ∧ H2 = H1) I1 ⟨rfl, rfl⟩) fun vl s2 ⟨l, H2, I2, pl, el, e2⟩ => ?_)
  subst el e2
  refine thn (po_none.run pins s2 sg H2 (fun o H3 => o = none ∧ H3 = H2) I2 ⟨rfl, rfl⟩) fun vu s3 ⟨u, H3, I3, pu, eu, e3⟩ => ?_
  subst eu e3
  refine thn ((po_some (hi.pe cx)).run pins s3 sg H3 (fun o H4 => ∃ xs vs a, x = .ref a ∧ H4 a = some (.lst vs) ∧ ((o = some 1 ∧ ∀ p, H4 p = none → Q (.ref p) (upd H4 p (.lst vs))) ∨ (o = some (-1) ∧ ∀ p, H4 p = none → Q (.ref p) (upd H4 p (.lst vs.reverse)))) ∧ xs = vs) I3 ?_) fun vs s4 ⟨o, H4, I4, ps, _, zs, a, ex, ha, ho, _⟩ => ?_
  · refine okE.bd S1 E1 A1 fun rho4 H4 st v4 h4 S4 e4 E4 r4 A4 => ?_
    obtain ⟨y, q, kk⟩ := A4.ofO
    have rd4 := Rp.ext e4 _ _ rd
    split at q
    · rename_i xs i ex
      obtain ⟨a, ws, ea, t, l⟩ := lst_ok S4 rd4 ex
      refine ⟨i, r4.int_, ws, ws, a, ea, t, ?_, rfl⟩
      split at q
      · rename_i hi
        cases q
        refine .inl ⟨by rw [hi], fun p hp => ?_⟩
        obtain ⟨s1, s2, s3⟩ := new_lst S4 hp l
        exact kk rho4 _ _ s1 s2 s3
      · split at q
        · rename_i hi
          cases q
          refine .inr ⟨by rw [hi], fun p hp => ?_⟩
          obtain ⟨s1, s2, s3⟩ := new_lst S4 hp l.rev
          exact kk rho4 _ _ s1 s2 s3
        · cases q
    · cases q
  · subst ex
    cases r1
    have I5 : Inv X pins sg H4 { s4 with heap := s4.heap.push { cls := .type "slice", data := .fields #[vl, vu, vs] } } := I4.kept (t' := s4.toks) fun b ob q => Heap.get?_push_of_some _ q
    obtain ⟨its, r, ht, hz⟩ := I5.list (.inl (.inl ha))
    have hlen := r.length
    show wpAny (model X.prog X.w) X.A (subscriptTail e (.Slice none none (some i) p2) (.ref a) (.ref s4.heap.objs.size)) (EP X pins sg Q) X.xe { s4 with heap := s4.heap.push { cls := .type "slice", data := .fields #[vl, vu, vs] } }
    refine tail_any (ops := [.ref a, .ref s4.heap.objs.size]) ht.isList.typeIs (PySem.slot_list_getitem.lookup) ?_ (by with_unfolding_all rfl)
    rcases ho with ⟨ho, hq⟩ | ⟨ho, hq⟩
    · subst ho
      refine wpAny_getItem_list_slice ht.isList (Heap.IsSliceOf.new _ vl vu vs) pl pu ps (by decide) ?_ (by rw [List.size_toArray]; omega)
      have e0 : slicePick its.toArray none none (some 1) = its.toArray := by
        have z : slicePick its.toArray none none (some 1) = slicePick its.toArray none none none := rfl
        rw [z, slicePick_cut]
        simp [HT.sIx]
      rw [e0]
      refine ⟨.ref _, _, I5.laid (t' := s4.toks) (o := .lst zs) (fun b ob q => Heap.get?_push_of_some _ q) (Nat.le_refl _) ?_, rfl, hq _ (I5.hok.fresh (Nat.le_refl _))⟩
      exact ⟨hz, _, 0, r, Heap.get?_push_size _ rfl⟩
    · subst ho
      refine wpAny_getItem_list_slice ht.isList (Heap.IsSliceOf.new _ vl vu vs) pl pu ps (by decide) ?_ (by rw [List.size_toArray]; omega)
      rw [PySem.W.krv_pick]
      refine ⟨.ref _, _, I5.laid (t' := s4.toks) (o := .lst zs.reverse) (fun b ob q => Heap.get?_push_of_some _ q) (Nat.le_refl _) ?_, rfl, hq _ (I5.hok.fresh (Nat.le_refl _))⟩
      exact ⟨by rw [List.length_reverse]; exact hz, _, 0, r.reverse, Heap.get?_push_size _ rfl⟩⟩⟩
end
def stepHL (h : Hh) (d s : D) : Option D := match lstOf h d, s with
  | some xs, .int i => if i = 1 then some (D.lst xs) else if i = -1 then some (.lst xs.reverse) else none
  | _, _ => none
theorem w_dstepL {fo fi : Env' → Hh → Rs D} {de : Env'} {h : Hh} {Q : D → Hh → Prop} : WR (dStepL fo fi de h) Q = WR (fo de h) fun d h1 => WR (fi de h1) fun s h2 => ∃ y, stepHL h2 d s = some y ∧ Q y h2 := by unfold dStepL; simp only [wr_bd, wr_ofO]; rfl
end DL

set_option maxHeartbeats 4000000
namespace DL
open PySem PySem.Spec PyProof.Rows L2
/-! plain functions and derivations of k17 (gen.py) -/
def nCls : Nat := 1
def subC (c d : Nat) : Bool := c == d
def nmT : List Str := ["own_tank", "own_places", "own_names", "by_name", "own_roads"]
def nmF (i : Nat) : Str := nmT.getD i Str.empty
theorem nmF_inj : ∀ i, i < 5 → ∀ j, j < 5 → nmF i = nmF j → i = j := by decide +kernel
abbrev mkG (K : PySem.W.Frag) (ca : Nat → Addr) : G := ⟨K, ca, nmF, 5, fun i j hi hj e => nmF_inj i hi j hj e⟩
theorem nmF_ne (m : Str) (h : ∀ f, f < 5 → nmF f ≠ m) (f : Nat) (hf : f < 5) : nmF f ≠ m := h f hf
section
variable (K : PySem.W.Frag) (ca : Nat → Addr) (mg : Str → Option Value)
/-- what the head tells of the module -/
structure Vf : Prop where
  bl : ∀ x : Str, bnames.contains x = true → mg x = none
  isf : IsF (mkG K ca) nCls subC
  c_LETTERS : ∃ t, mg "LETTERS" = some (.str "abcdefghijklmnopqrstuvwxyz" t)
  c_MAX_LETTERS : ∃ t, mg "MAX_LETTERS" = some (.int 8 t)
  c_MAX_PLACES : ∃ t, mg "MAX_PLACES" = some (.int 10 t)
  c_MAX_SIZE : ∃ t, mg "MAX_SIZE" = some (.int 1000000000000000000000000000000 t)
  k_Network : mg "Network" = some (.ref (ca 0))
  cl_Network : ClsOk (mkG K ca) 0
  cv_MAX_PLACES : ∃ mc u, ClX.CRead K (ca 0) mc ∧ ClX.CVal K (ca 0) mc "MAX_PLACES" (.int 10) u
  cv_MAX_ROADS : ∃ mc u, ClX.CRead K (ca 0) mc ∧ ClX.CVal K (ca 0) mc "MAX_ROADS" (.int 40) u
  cv_MAX_SIZE : ∃ mc u, ClX.CRead K (ca 0) mc ∧ ClX.CVal K (ca 0) mc "MAX_SIZE" (.int 1000000000000000000000000000000) u
end
section
variable {K : PySem.W.Frag} {ca : Nat → Addr} {P : Program} {w : World} {mg : Str → Option Value} {base : Heap} {k : Nat} {f : Addr} {cdv : Value} {A : Around} {outer : List Env} {s : Shared} {H : Hp} {E : XK}
abbrev N__law_pen : List Str := ["_law_script"]
noncomputable def k__law_pen  : Env' → Hh → Sr :=
  (sRet (dAlM false (mDisp (pCons (dC (.str "cells")) (dBlt bListZ (dCons (dSl (dV 0) oN (oS (dC (.int 63)))) dNil)) (pCons (dC (.str "at")) (dC (.int 0)) (pCons (dC (.str "rest")) (dC (.int 0)) pNil))))))
theorem d__law_pen  (V : Vf K ca mg)  (hr : Room (k + 1) (A.deeper (envOfC "_law_pen" (C8.fnScope (topS 46)) s.heap.objs.size f cdv))) :
    DSs (mkG K ca) (cxOf (L2.CX P w) P w K mg base N__law_pen "_law_pen" (C8.fnScope (topS 46)) f cdv A outer s H E) (fun c d _ H' => E c d H') (C8.fnBody (topS 46)) (k__law_pen ) :=
  (dss_one (ds_ret (de_alM (dm_disp (dps_cons de_str (de_bty (fun _ => bListZ_ok) (by decide +kernel) (by decide +kernel) (da_cons (de_slice (de_v 0) do_none (do_some de_int)) da_nil)) (dps_cons de_str de_int (dps_cons de_str de_int dps_nil)))))))
abbrev N__law_draw : List Str := ["_law_pen_here", "_law_many", "_law_digit", "_law_at", "_law_cell", "_law_mixed"]
noncomputable def k__law_draw (f__law_draw : Fn) : Env' → Hh → Sr :=
  (sSeq (sIf (dBl (dOp oGt (dIx (dV 0) (dC (.str "rest"))) (dC (.int 0)))) (sSeq (sSet 2 (dOp oMod (dBlt bInt (dCons (dIx (dV 0) (dC (.str "rest"))) dNil)) (dV 1))) (sSeq (sAsg (dOp oDiv (dIx (dV 0) (dC (.str "rest"))) (dV 1)) (gSb (dV 0) (dC (.str "rest")))) (sRet (dV 2)))) sNil) (sSeq (sSet 3 (dIx (dV 0) (dC (.str "at")))) (sSeq (sAsg (dOp oAdd (dV 3) (dC (.int 1))) (gSb (dV 0) (dC (.str "at")))) (sSeq (sSet 4 (dOp oAdd (dOp oMul (dC (.int 37)) (dV 3)) (dC (.int 11)))) (sSeq (sIf (dBl (dOp oNeC (dIx (dV 0) (dC (.str "cells"))) (dFz (dDisp dNil)))) (sSet 4 (dIx (dIx (dV 0) (dC (.str "cells"))) (dOp oMod (dBlt bInt (dCons (dV 3) dNil)) (dBlt bLen (dCons (dIx (dV 0) (dC (.str "cells"))) dNil))))) sNil) (sSeq (sIf (dAnd (dBl (dOp oLt (dV 3) (dBlt bLen (dCons (dIx (dV 0) (dC (.str "cells"))) dNil)))) (dBl (dOp oGe (dBlt bAbs (dCons (dV 4) dNil)) (dOp oPow (dC (.int 10)) (dC (.int 18)))))) (sSeq (sAsg (dOp oDiv (dOp oSub (dBlt bAbs (dCons (dV 4) dNil)) (dOp oPow (dC (.int 10)) (dC (.int 18)))) (dV 1)) (gSb (dV 0) (dC (.str "rest")))) (sRet (dOp oMod (dOp oSub (dBlt bAbs (dCons (dV 4) dNil)) (dOp oPow (dC (.int 10)) (dC (.int 18)))) (dV 1)))) sNil) (sSeq (sSet 5 (dOp oMod (dBlt bInt (dCons (dOp oAdd (dOp oAdd (dOp oAdd (dOp oMul (dOp oMod (dBlt bInt (dCons (dV 4) dNil)) (dC (.int 2147483587))) (dC (.int 48271))) (dOp oMul (dOp oMul (dC (.int 50021)) (dV 3)) (dV 3))) (dOp oMul (dC (.int 31)) (dV 3))) (dC (.int 17))) dNil)) (dC (.int 2147483629)))) (sSeq (sSet 5 (dOp oMod (dBlt bInt (dCons (dOp oMul (dV 5) (dOp oAdd (dV 5) (dC (.int 69621)))) dNil)) (dC (.int 2147483579)))) (sSeq (sSet 5 (dOp oDiv (dOp oMod (dBlt bInt (dCons (dOp oMul (dV 5) (dV 5)) dNil)) (dC (.int 2147483549))) (dC (.int 32)))) (sSeq (sIf (dBl (dOp oGt (dV 1) (dC (.int 60000000)))) (sSet 5 (dOp oAdd (dV 5) (dOp oMul (dC (.int 60000000)) (dCall f__law_draw (dCons (dV 0) (dCons (dOp oAdd (dOp oDiv (dV 1) (dC (.int 60000000))) (dC (.int 1))) dNil)))))) sNil) (sRet (dOp oMod (dBlt bInt (dCons (dV 5) dNil)) (dV 1)))))))))))))
theorem d__law_draw {f__law_draw : Fn} (V : Vf K ca mg) (A__law_draw : FnA (mkG K ca) P w mg base k "_law_draw" f__law_draw) (hr : Room (k + 1) (A.deeper (envOfC "_law_draw" (C8.fnScope (topS 47)) s.heap.objs.size f cdv))) :
    DSs (mkG K ca) (cxOf (L2.CX P w) P w K mg base N__law_draw "_law_draw" (C8.fnScope (topS 47)) f cdv A outer s H E) (fun c d _ H' => E c d H') (C8.fnBody (topS 47)) (k__law_draw f__law_draw) :=
  (dss_cons (ds_if (dt_cmp (fun _ => oGt_ok) (de_it (de_v 0) de_str) de_int) (dss_cons (ds_set 2 (de_op (fun _ => oMod_ok) (de_bty (fun _ => bInt_ok) (by decide +kernel) (by decide +kernel) (da_cons (de_it (de_v 0) de_str) da_nil)) (de_v 1))) (dss_cons (ds_asg (de_op (fun _ => oDiv_ok) (de_it (de_v 0) de_str) (de_v 1)) (dg_sub (de_v 0) de_str)) (dss_one (ds_ret (de_v 2))))) dss_nil) (dss_cons (ds_set 3 (de_it (de_v 0) de_str)) (dss_cons (ds_asg (de_op (fun _ => oAdd_ok) (de_v 3) de_int) (dg_sub (de_v 0) de_str)) (dss_cons (ds_set 4 (de_op (fun _ => oAdd_ok) (de_op (fun _ => oMul_ok) de_int (de_v 3)) de_int)) (dss_cons (ds_if (dt_cmp oNeC_ok (de_it (de_v 0) de_str) (de_fz (dn_lst da_nil))) (dss_one (ds_set 4 (de_it (de_it (de_v 0) de_str) (de_op (fun _ => oMod_ok) (de_bty (fun _ => bInt_ok) (by decide +kernel) (by decide +kernel) (da_cons (de_v 3) da_nil)) (de_blt (fun _ => bLen_ok) (by decide +kernel) (by decide +kernel) (da_cons (de_it (de_v 0) de_str) da_nil)))))) dss_nil) (dss_cons (ds_if (DW.dt (dw_and (dt_cmp (fun _ => oLt_ok) (de_v 3) (de_blt (fun _ => bLen_ok) (by decide +kernel) (by decide +kernel) (da_cons (de_it (de_v 0) de_str) da_nil))) (dw_and1 (dt_cmp (fun _ => oGe_ok) (de_blt (fun _ => bAbs_ok) (by decide +kernel) (by decide +kernel) (da_cons (de_v 4) da_nil)) (de_op (fun _ => oPow_ok) de_int de_int))))) (dss_cons (ds_asg (de_op (fun _ => oDiv_ok) (de_op (fun _ => oSub_ok) (de_blt (fun _ => bAbs_ok) (by decide +kernel) (by decide +kernel) (da_cons (de_v 4) da_nil)) (de_op (fun _ => oPow_ok) de_int de_int)) (de_v 1)) (dg_sub (de_v 0) de_str)) (dss_one (ds_ret (de_op (fun _ => oMod_ok) (de_op (fun _ => oSub_ok) (de_blt (fun _ => bAbs_ok) (by decide +kernel) (by decide +kernel) (da_cons (de_v 4) da_nil)) (de_op (fun _ => oPow_ok) de_int de_int)) (de_v 1))))) dss_nil) (dss_cons (ds_set 5 (de_op (fun _ => oMod_ok) (de_bty (fun _ => bInt_ok) (by decide +kernel) (by decide +kernel) (da_cons (de_op (fun _ => oAdd_ok) (de_op (fun _ => oAdd_ok) (de_op (fun _ => oAdd_ok) (de_op (fun _ => oMul_ok) (de_op (fun _ => oMod_ok) (de_bty (fun _ => bInt_ok) (by decide +kernel) (by decide +kernel) (da_cons (de_v 4) da_nil)) de_int) de_int) (de_op (fun _ => oMul_ok) (de_op (fun _ => oMul_ok) de_int (de_v 3)) (de_v 3))) (de_op (fun _ => oMul_ok) de_int (de_v 3))) de_int) da_nil)) de_int)) (dss_cons (ds_set 5 (de_op (fun _ => oMod_ok) (de_bty (fun _ => bInt_ok) (by decide +kernel) (by decide +kernel) (da_cons (de_op (fun _ => oMul_ok) (de_v 5) (de_op (fun _ => oAdd_ok) (de_v 5) de_int)) da_nil)) de_int)) (dss_cons (ds_set 5 (de_op (fun _ => oDiv_ok) (de_op (fun _ => oMod_ok) (de_bty (fun _ => bInt_ok) (by decide +kernel) (by decide +kernel) (da_cons (de_op (fun _ => oMul_ok) (de_v 5) (de_v 5)) da_nil)) de_int) de_int)) (dss_cons (ds_if (dt_cmp (fun _ => oGt_ok) (de_v 1) de_int) (dss_one (ds_set 5 (de_op (fun _ => oAdd_ok) (de_v 5) (de_op (fun _ => oMul_ok) de_int (de_call A__law_draw (hr.mono (by omega)) (da_cons (de_v 0) (da_cons (de_op (fun _ => oAdd_ok) (de_op (fun _ => oDiv_ok) (de_v 1) de_int) de_int) da_nil))))))) dss_nil) (dss_one (ds_ret (de_op (fun _ => oMod_ok) (de_bty (fun _ => bInt_ok) (by decide +kernel) (by decide +kernel) (da_cons (de_v 5) da_nil)) (de_v 1))))))))))))))
abbrev N__law_pick : List Str := ["_law_pen_here", "_law_items"]
noncomputable def k__law_pick (f__law_draw : Fn) : Env' → Hh → Sr :=
  (sRet (dIx (dV 1) (dCall f__law_draw (dCons (dV 0) (dCons (dBlt bLen (dCons (dV 1) dNil)) dNil)))))
theorem d__law_pick {f__law_draw : Fn} (V : Vf K ca mg) (A__law_draw : FnA (mkG K ca) P w mg base k "_law_draw" f__law_draw) (hr : Room (k + 1) (A.deeper (envOfC "_law_pick" (C8.fnScope (topS 48)) s.heap.objs.size f cdv))) :
    DSs (mkG K ca) (cxOf (L2.CX P w) P w K mg base N__law_pick "_law_pick" (C8.fnScope (topS 48)) f cdv A outer s H E) (fun c d _ H' => E c d H') (C8.fnBody (topS 48)) (k__law_pick f__law_draw) :=
  (dss_one (ds_ret (de_it (de_v 1) (de_call A__law_draw (hr.mono (by omega)) (da_cons (de_v 0) (da_cons (de_blt (fun _ => bLen_ok) (by decide +kernel) (by decide +kernel) (da_cons (de_v 1) da_nil)) da_nil))))))
abbrev N__law_some_names : List Str := ["_law_pen_here", "_law_many", "_law_letters", "_law_stem", "_law_at", "_law_first", "_law_step", "_law_cut", "_law_found", "_law_k", "_law_tail", "_law_letter"]
noncomputable def k__law_some_names (f__law_draw : Fn) (f__law_pick : Fn) : Env' → Hh → Sr :=
  (sSeq (sSet 2 (dC (.str "abcdefghijklmnopqrstuvwxyz"))) (sSeq (sSet 3 (dSl (dBm isS mJoin (dC (.str "")) (dCons (dFz (dComp (iRng1 (dCons (dCall f__law_draw (dCons (dV 0) (dCons (dC (.int 8)) dNil))) dNil)) (gN 9) tYs (dCall f__law_pick (dCons (dV 0) (dCons (dV 2) dNil))) [9])) dNil)) oN (oS (dC (.int 6))))) (sSeq (sPar3 4 5 6 (dCons (dCall f__law_draw (dCons (dV 0) (dCons (dOp oAdd (dBlt bLen (dCons (dV 3) dNil)) (dC (.int 1))) dNil))) (dCons (dCall f__law_draw (dCons (dV 0) (dCons (dC (.int 26)) dNil))) (dCons (dCall f__law_pick (dCons (dV 0) (dCons (dFz (dDisp (dCons (dC (.int 1)) (dCons (dC (.int 3)) (dCons (dC (.int 6)) (dCons (dC (.int 7)) (dCons (dC (.int 9)) (dCons (dC (.int 11)) dNil)))))))) dNil))) dNil)))) (sSeq (sSet 7 (dCall f__law_draw (dCons (dV 0) (dCons (dC (.int 3)) dNil)))) (sSeq (sSet 8 (dAl (dDisp dNil))) (sSeq (sFor (iRng1 (dCons (dV 1) dNil)) (gN 9) (sSeq (sSet 10 (dSl (dSl (dV 3) (oS (dV 4)) oN) oN (oS (dIx (dFz (dDisp (dCons (dC (.int 7)) (dCons (dC (.int 0)) (dCons (dOp oMod (dBlt bInt (dCons (dV 9) dNil)) (dC (.int 3))) dNil))))) (dV 7))))) (sSeq (sSet 11 (dIx (dV 2) (dOp oMod (dBlt bInt (dCons (dOp oAdd (dV 5) (dOp oMul (dV 6) (dV 9))) dNil)) (dC (.int 25))))) (sExpr (dBm isL mAppend (dV 8) (dCons (dOp oAdd (dOp oAdd (dSl (dV 3) oN (oS (dV 4))) (dV 11)) (dV 10)) dNil))))) [9]) (sRet (dV 8))))))))
theorem d__law_some_names {f__law_draw : Fn} {f__law_pick : Fn} (V : Vf K ca mg) (A__law_draw : FnA (mkG K ca) P w mg base k "_law_draw" f__law_draw) (A__law_pick : FnA (mkG K ca) P w mg base k "_law_pick" f__law_pick) (hr : Room (k + 1) (A.deeper (envOfC "_law_some_names" (C8.fnScope (topS 50)) s.heap.objs.size f cdv))) :
    DSs (mkG K ca) (cxOf (L2.CX P w) P w K mg base N__law_some_names "_law_some_names" (C8.fnScope (topS 50)) f cdv A outer s H E) (fun c d _ H' => E c d H') (C8.fnBody (topS 50)) (k__law_some_names f__law_draw f__law_pick) :=
  (dss_cons (ds_set 2 de_str) (dss_cons (ds_set 3 (de_slice (de_bm PySem.F.plainAttrs_str PySem.F.slot_str_join PySem.F.type_str_join ty_str mJoin_ok de_str (da_cons (de_fz (dn_lc (F := (gN 9)) (t := tYs) (f := (dCall f__law_pick (dCons (dV 0) (dCons (dV 2) dNil)))) [("_law_k", 9)] (di_range1 (da_cons (de_call A__law_draw (hr.mono (by omega)) (da_cons (de_v 0) (da_cons de_int da_nil))) da_nil)) (blkOk_by (by kernel_rfl)) (fun _ _ _ _ _ => (dg_name 9)) (fun _ _ _ _ _ => dts_nil) (fun _ _ _ _ _ => (de_call A__law_pick (hr.mono (by omega)) (da_cons (de_v 0) (da_cons (de_v 2) da_nil)))))) da_nil)) do_none (do_some de_int))) (dss_cons (ds_par3 4 5 6 (da_cons (de_call A__law_draw (hr.mono (by omega)) (da_cons (de_v 0) (da_cons (de_op (fun _ => oAdd_ok) (de_blt (fun _ => bLen_ok) (by decide +kernel) (by decide +kernel) (da_cons (de_v 3) da_nil)) de_int) da_nil))) (da_cons (de_call A__law_draw (hr.mono (by omega)) (da_cons (de_v 0) (da_cons de_int da_nil))) (da_cons (de_call A__law_pick (hr.mono (by omega)) (da_cons (de_v 0) (da_cons (de_fz (dn_lst (da_cons de_int (da_cons de_int (da_cons de_int (da_cons de_int (da_cons de_int (da_cons de_int da_nil)))))))) da_nil))) da_nil)))) (dss_cons (ds_set 7 (de_call A__law_draw (hr.mono (by omega)) (da_cons (de_v 0) (da_cons de_int da_nil)))) (dss_cons (ds_set 8 (de_al (dn_lst da_nil))) (dss_cons (ds_for [9] (di_range1 (da_cons (de_v 1) da_nil)) (dg_name 9) (dss_cons (ds_set 10 (de_slice (de_slice (de_v 3) (do_some (de_v 4)) do_none) do_none (do_some (de_it (de_fz (dn_lst (da_cons de_int (da_cons de_int (da_cons (de_op (fun _ => oMod_ok) (de_bty (fun _ => bInt_ok) (by decide +kernel) (by decide +kernel) (da_cons (de_v 9) da_nil)) de_int) da_nil))))) (de_v 7))))) (dss_cons (ds_set 11 (de_it (de_v 2) (de_op (fun _ => oMod_ok) (de_bty (fun _ => bInt_ok) (by decide +kernel) (by decide +kernel) (da_cons (de_op (fun _ => oAdd_ok) (de_v 5) (de_op (fun _ => oMul_ok) (de_v 6) (de_v 9))) da_nil)) de_int))) (dss_one (ds_expr (de_bm PySem.F.plainAttrs_list PySem.F.slot_list_append PySem.F.type_list_append ty_list mAppend_ok (de_v 8) (da_cons (de_op (fun _ => oAdd_ok) (de_op (fun _ => oAdd_ok) (de_slice (de_v 3) do_none (do_some (de_v 4))) (de_v 11)) (de_v 10)) da_nil))))))) (dss_one (ds_ret (de_v 8)))))))))
abbrev N__law_drawn_place : List Str := ["_law_pen_here", "_law_name", "_law_high", "_law_kind", "_law_buy", "_law_sell"]
noncomputable def k__law_drawn_place (f__law_draw : Fn) (f__law_pick : Fn) : Env' → Hh → Sr :=
  (sSeq (sPar3 3 4 5 (dCons (dCall f__law_draw (dCons (dV 0) (dCons (dC (.int 6)) dNil))) (dCons (dC .non) (dCons (dC .non) dNil)))) (sSeq (sIf (dBl (dOp oGt (dV 3) (dC (.int 1)))) (sSet 4 (dCall f__law_pick (dCons (dV 0) (dCons (dFz (dDisp (dCons (dC (.int 0)) (dCons (dC (.int 1)) (dCons (dCall f__law_draw (dCons (dV 0) (dCons (dC (.int 6)) dNil))) (dCons (dCall f__law_draw (dCons (dV 0) (dCons (dOp oAdd (dV 2) (dC (.int 1))) dNil))) (dCons (dV 2) dNil))))))) dNil)))) sNil) (sSeq (sIf (dBl (dOp oGt (dV 3) (dC (.int 3)))) (sSet 5 (dCall f__law_pick (dCons (dV 0) (dCons (dFz (dDisp (dCons (dC (.int 0)) (dCons (dV 4) (dCons (dCall f__law_draw (dCons (dV 0) (dCons (dOp oAdd (dV 4) (dC (.int 1))) dNil))) dNil))))) dNil)))) sNil) (sSeq (sIf (dBl (dOp oEqC (dV 3) (dC (.int 1)))) (sSet 5 (dCall f__law_pick (dCons (dV 0) (dCons (dFz (dDisp (dCons (dC (.int 1)) (dCons (dCall f__law_draw (dCons (dV 0) (dCons (dOp oAdd (dV 2) (dC (.int 1))) dNil))) dNil)))) dNil)))) sNil) (sRet (dTup (dCons (dV 1) (dCons (dV 4) (dCons (dV 5) (dCons (dCall f__law_pick (dCons (dV 0) (dCons (dFz (dDisp (dCons (dC (.int 0)) (dCons (dC (.int 0)) (dCons (dCall f__law_draw (dCons (dV 0) (dCons (dC (.int 4)) dNil))) (dCons (dCall f__law_draw (dCons (dV 0) (dCons (dOp oAdd (dV 2) (dC (.int 1))) dNil))) dNil)))))) dNil))) dNil))))))))))
theorem d__law_drawn_place {f__law_draw : Fn} {f__law_pick : Fn} (V : Vf K ca mg) (A__law_draw : FnA (mkG K ca) P w mg base k "_law_draw" f__law_draw) (A__law_pick : FnA (mkG K ca) P w mg base k "_law_pick" f__law_pick) (hr : Room (k + 1) (A.deeper (envOfC "_law_drawn_place" (C8.fnScope (topS 51)) s.heap.objs.size f cdv))) :
    DSs (mkG K ca) (cxOf (L2.CX P w) P w K mg base N__law_drawn_place "_law_drawn_place" (C8.fnScope (topS 51)) f cdv A outer s H E) (fun c d _ H' => E c d H') (C8.fnBody (topS 51)) (k__law_drawn_place f__law_draw f__law_pick) :=
  (dss_cons (ds_par3 3 4 5 (da_cons (de_call A__law_draw (hr.mono (by omega)) (da_cons (de_v 0) (da_cons de_int da_nil))) (da_cons de_non (da_cons de_non da_nil)))) (dss_cons (ds_if (dt_cmp (fun _ => oGt_ok) (de_v 3) de_int) (dss_one (ds_set 4 (de_call A__law_pick (hr.mono (by omega)) (da_cons (de_v 0) (da_cons (de_fz (dn_lst (da_cons de_int (da_cons de_int (da_cons (de_call A__law_draw (hr.mono (by omega)) (da_cons (de_v 0) (da_cons de_int da_nil))) (da_cons (de_call A__law_draw (hr.mono (by omega)) (da_cons (de_v 0) (da_cons (de_op (fun _ => oAdd_ok) (de_v 2) de_int) da_nil))) (da_cons (de_v 2) da_nil))))))) da_nil))))) dss_nil) (dss_cons (ds_if (dt_cmp (fun _ => oGt_ok) (de_v 3) de_int) (dss_one (ds_set 5 (de_call A__law_pick (hr.mono (by omega)) (da_cons (de_v 0) (da_cons (de_fz (dn_lst (da_cons de_int (da_cons (de_v 4) (da_cons (de_call A__law_draw (hr.mono (by omega)) (da_cons (de_v 0) (da_cons (de_op (fun _ => oAdd_ok) (de_v 4) de_int) da_nil))) da_nil))))) da_nil))))) dss_nil) (dss_cons (ds_if (dt_cmp oEqC_ok (de_v 3) de_int) (dss_one (ds_set 5 (de_call A__law_pick (hr.mono (by omega)) (da_cons (de_v 0) (da_cons (de_fz (dn_lst (da_cons de_int (da_cons (de_call A__law_draw (hr.mono (by omega)) (da_cons (de_v 0) (da_cons (de_op (fun _ => oAdd_ok) (de_v 2) de_int) da_nil))) da_nil)))) da_nil))))) dss_nil) (dss_one (ds_ret (de_tup (da_cons (de_v 1) (da_cons (de_v 4) (da_cons (de_v 5) (da_cons (de_call A__law_pick (hr.mono (by omega)) (da_cons (de_v 0) (da_cons (de_fz (dn_lst (da_cons de_int (da_cons de_int (da_cons (de_call A__law_draw (hr.mono (by omega)) (da_cons (de_v 0) (da_cons de_int da_nil))) (da_cons (de_call A__law_draw (hr.mono (by omega)) (da_cons (de_v 0) (da_cons (de_op (fun _ => oAdd_ok) (de_v 2) de_int) da_nil))) da_nil)))))) da_nil))) da_nil)))))))))))
abbrev N__law_shuffled : List Str := ["_law_pen_here", "_law_items", "_law_rest", "_law_found"]
noncomputable def k__law_shuffled (f__law_draw : Fn) : Env' → Hh → Sr :=
  (sSeq (sPar 2 3 (dCons (dBlt bListA (dCons (dV 1) dNil)) (dCons (dAl (dDisp dNil)) dNil))) (sSeq (whileS (dBl (dOp oNeC (dV 2) (dFz (dDisp dNil)))) (sExpr (dBm isL mAppend (dV 3) (dCons (dBm isL mPop (dV 2) (dCons (dCall f__law_draw (dCons (dV 0) (dCons (dBlt bLen (dCons (dV 2) dNil)) dNil))) dNil)) dNil))) [] (1000000000000000000000000000000000000000000000)) (sRet (dV 3))))
theorem d__law_shuffled {f__law_draw : Fn} (V : Vf K ca mg) (A__law_draw : FnA (mkG K ca) P w mg base k "_law_draw" f__law_draw) (hr : Room (k + 1) (A.deeper (envOfC "_law_shuffled" (C8.fnScope (topS 49)) s.heap.objs.size f cdv))) :
    DSs (mkG K ca) (cxOf (L2.CX P w) P w K mg base N__law_shuffled "_law_shuffled" (C8.fnScope (topS 49)) f cdv A outer s H E) (fun c d _ H' => E c d H') (C8.fnBody (topS 49)) (k__law_shuffled f__law_draw) :=
  (dss_cons (ds_par 2 3 (da_cons (de_bty (fun _ => bListA_ok) (by decide +kernel) (by decide +kernel) (da_cons (de_v 1) da_nil)) (da_cons (de_al (dn_lst da_nil)) da_nil))) (dss_cons (ds_while (1000000000000000000000000000000000000000000000) [] (dt_cmp oNeC_ok (de_v 2) (de_fz (dn_lst da_nil))) (dss_one (ds_expr (de_bm PySem.F.plainAttrs_list PySem.F.slot_list_append PySem.F.type_list_append ty_list mAppend_ok (de_v 3) (da_cons (de_bm PySem.F.plainAttrs_list PySem.F.slot_list_pop PySem.F.type_list_pop ty_list mPop_ok (de_v 2) (da_cons (de_call A__law_draw (hr.mono (by omega)) (da_cons (de_v 0) (da_cons (de_blt (fun _ => bLen_ok) (by decide +kernel) (by decide +kernel) (da_cons (de_v 2) da_nil)) da_nil))) da_nil)) da_nil))))) (dss_one (ds_ret (de_v 3)))))
abbrev N__law_drawn_roads : List Str := ["_law_pen_here", "_law_names", "_law_many", "_law_fuels", "_law_pairs", "_law_shape", "_law_turns", "_law_turn", "_law_u", "_law_v", "_law_found", "_law_name", "_law_pair"]
noncomputable def k__law_drawn_roads (f__law_draw : Fn) (f__law_shuffled : Fn) (f__law_pick : Fn) : Env' → Hh → Sr :=
  (sSeq (sPar 4 5 (dCons (dAl (dDisp dNil)) (dCons (dCall f__law_draw (dCons (dV 0) (dCons (dC (.int 4)) dNil))) dNil))) (sSeq (sIf (dAnd (dBl (dOp oEqC (dV 5) (dC (.int 0)))) (dBl (dOp oGt (dBlt bLen (dCons (dV 1) dNil)) (dC (.int 1))))) (sSetN 4 true (dComp (iZipD (dCons (dV 1) (dCons (dOp oAdd (dSl (dV 1) (oS (dC (.int 1))) oN) (dSl (dV 1) oN (oS (dC (.int 1))))) dNil))) (gT 2 (gsCons (gN 8) (gsCons (gN 9) gsNil))) tYs (dTup (dCons (dV 8) (dCons (dV 9) dNil))) [8, 9])) sNil) (sSeq (sIf (dBl (dOp oEqC (dV 5) (dC (.int 1)))) (sSet 4 (dCatA (dFz (dComp (iVal (dSl (dV 1) (oS (dC (.int 1))) oN)) (gN 11) tYs (dTup (dCons (dIx (dV 1) (dC (.int 0))) (dCons (dV 11) dNil))) [11])) (dFz (dComp (iVal (dSl (dV 1) (oS (dC (.int 1))) oN)) (gN 11) tYs (dTup (dCons (dV 11) (dCons (dIx (dV 1) (dC (.int 0))) dNil))) [11])))) sNil) (sSeq (sSet 6 (dIf (dBl (dOp oGt (dBlt bLen (dCons (dV 1) dNil)) (dC (.int 1)))) (dCall f__law_draw (dCons (dV 0) (dCons (dOp oAdd (dV 2) (dC (.int 1))) dNil))) (dC (.int 0)))) (sSeq (sFor (iRng1 (dCons (dV 6) dNil)) (gN 7) (sSeq (sAsg (dSl (dCall f__law_shuffled (dCons (dV 0) (dCons (dV 1) dNil))) oN (oS (dC (.int 2)))) (gT 2 (gsCons (gN 8) (gsCons (gN 9) gsNil)))) (sExpr (dBm isL mAppend (dV 4) (dCons (dTup (dCons (dV 8) (dCons (dV 9) dNil))) dNil)))) [7]) (sSeq (sSet 10 (dAlM true (fun _ h => Rs.ok [] h))) (sSeq (sFor (iVal (dSl (dV 4) oN (oS (dV 2)))) (gT 2 (gsCons (gN 8) (gsCons (gN 9) gsNil))) (sAsg (dTup (dCons (dV 8) (dCons (dV 9) (dCons (dCall f__law_pick (dCons (dV 0) (dCons (dV 3) dNil))) dNil)))) (gSb (dV 10) (dTup (dCons (dV 8) (dCons (dV 9) dNil))))) [8, 9]) (sRet (dCall f__law_shuffled (dCons (dV 0) (dCons (dFz (eLock 10 (dComp (iKeysD (dV 10)) (gN 12) tYs (dIx (dV 10) (dV 12)) [12]))) dNil)))))))))))
theorem d__law_drawn_roads {f__law_draw : Fn} {f__law_shuffled : Fn} {f__law_pick : Fn} (V : Vf K ca mg) (A__law_draw : FnA (mkG K ca) P w mg base k "_law_draw" f__law_draw) (A__law_shuffled : FnA (mkG K ca) P w mg base k "_law_shuffled" f__law_shuffled) (A__law_pick : FnA (mkG K ca) P w mg base k "_law_pick" f__law_pick) (hr : Room (k + 1) (A.deeper (envOfC "_law_drawn_roads" (C8.fnScope (topS 52)) s.heap.objs.size f cdv))) :
    DSs (mkG K ca) (cxOf (L2.CX P w) P w K mg base N__law_drawn_roads "_law_drawn_roads" (C8.fnScope (topS 52)) f cdv A outer s H E) (fun c d _ H' => E c d H') (C8.fnBody (topS 52)) (k__law_drawn_roads f__law_draw f__law_shuffled f__law_pick) :=
  (dss_cons (ds_par 4 5 (da_cons (de_al (dn_lst da_nil)) (da_cons (de_call A__law_draw (hr.mono (by omega)) (da_cons (de_v 0) (da_cons de_int da_nil))) da_nil))) (dss_cons (ds_if (DW.dt (dw_and (dt_cmp oEqC_ok (de_v 5) de_int) (dw_and1 (dt_cmp (fun _ => oGt_ok) (de_blt (fun _ => bLen_ok) (by decide +kernel) (by decide +kernel) (da_cons (de_v 1) da_nil)) de_int)))) (dss_one (ds_setLc (F := (gT 2 (gsCons (gN 8) (gsCons (gN 9) gsNil)))) (t := tYs) (f := (dTup (dCons (dV 8) (dCons (dV 9) dNil)))) 4 true [("_law_u", 8), ("_law_v", 9)] (di_zip (da_cons (de_v 1) (da_cons (de_op (fun _ => oAdd_ok) (de_slice (de_v 1) (do_some de_int) do_none) (de_slice (de_v 1) do_none (do_some de_int))) da_nil))) (blkOk_by (by kernel_rfl)) (fun _ _ _ _ _ => (dg_tup 2 (dgs_cons (dg_name 8) (dgs_cons (dg_name 9) dgs_nil)))) (fun _ _ _ _ _ => dts_nil) (fun _ _ _ _ _ => (de_tup (da_cons (de_v 8) (da_cons (de_v 9) da_nil)))))) dss_nil) (dss_cons (ds_if (dt_cmp oEqC_ok (de_v 5) de_int) (dss_one (ds_set 4 (de_catA (de_fz (dn_lc (F := (gN 11)) (t := tYs) (f := (dTup (dCons (dIx (dV 1) (dC (.int 0))) (dCons (dV 11) dNil)))) [("_law_name", 11)] (di_val (de_slice (de_v 1) (do_some de_int) do_none)) (blkOk_by (by kernel_rfl)) (fun _ _ _ _ _ => (dg_name 11)) (fun _ _ _ _ _ => dts_nil) (fun _ _ _ _ _ => (de_tup (da_cons (de_it (de_v 1) de_int) (da_cons (de_v 11) da_nil)))))) (de_fz (dn_lc (F := (gN 11)) (t := tYs) (f := (dTup (dCons (dV 11) (dCons (dIx (dV 1) (dC (.int 0))) dNil)))) [("_law_name", 11)] (di_val (de_slice (de_v 1) (do_some de_int) do_none)) (blkOk_by (by kernel_rfl)) (fun _ _ _ _ _ => (dg_name 11)) (fun _ _ _ _ _ => dts_nil) (fun _ _ _ _ _ => (de_tup (da_cons (de_v 11) (da_cons (de_it (de_v 1) de_int) da_nil))))))))) dss_nil) (dss_cons (ds_set 6 (de_if (dt_cmp (fun _ => oGt_ok) (de_blt (fun _ => bLen_ok) (by decide +kernel) (by decide +kernel) (da_cons (de_v 1) da_nil)) de_int) (de_call A__law_draw (hr.mono (by omega)) (da_cons (de_v 0) (da_cons (de_op (fun _ => oAdd_ok) (de_v 2) de_int) da_nil))) de_int)) (dss_cons (ds_for [7] (di_range1 (da_cons (de_v 6) da_nil)) (dg_name 7) (dss_cons (ds_asg (de_slice (de_call A__law_shuffled (hr.mono (by omega)) (da_cons (de_v 0) (da_cons (de_v 1) da_nil))) do_none (do_some de_int)) (dg_tup 2 (dgs_cons (dg_name 8) (dgs_cons (dg_name 9) dgs_nil)))) (dss_one (ds_expr (de_bm PySem.F.plainAttrs_list PySem.F.slot_list_append PySem.F.type_list_append ty_list mAppend_ok (de_v 4) (da_cons (de_tup (da_cons (de_v 8) (da_cons (de_v 9) da_nil))) da_nil)))))) (dss_cons (ds_set 10 (de_alM (dm_new true))) (dss_cons (ds_for [8, 9] (di_val (de_slice (de_v 4) do_none (do_some (de_v 2)))) (dg_tup 2 (dgs_cons (dg_name 8) (dgs_cons (dg_name 9) dgs_nil))) (dss_one (ds_asg (de_tup (da_cons (de_v 8) (da_cons (de_v 9) (da_cons (de_call A__law_pick (hr.mono (by omega)) (da_cons (de_v 0) (da_cons (de_v 3) da_nil))) da_nil)))) (dg_sub (de_v 10) (de_tup (da_cons (de_v 8) (da_cons (de_v 9) da_nil))))))) (dss_one (ds_ret (de_call A__law_shuffled (hr.mono (by omega)) (da_cons (de_v 0) (da_cons (de_fz (dn_lock 10 (dn_lc (F := (gN 12)) (t := tYs) (f := (dIx (dV 10) (dV 12))) [("_law_pair", 12)] (di_keys (de_v 10)) (blkOk_by (by kernel_rfl)) (fun _ _ _ _ _ => (dg_name 12)) (fun _ _ _ _ _ => dts_nil) (fun _ _ _ _ _ => (de_it (de_v 10) (de_v 12)))))) da_nil))))))))))))
abbrev N__law_small : List Str := ["_law_pen_here", "_law_most", "_law_tank", "_law_size", "_law_names", "_law_high", "_law_places", "_law_fuels", "_law_name"]
noncomputable def k__law_small (f__law_draw : Fn) (f__law_some_names : Fn) (f__law_pick : Fn) (f__law_drawn_place : Fn) (f__law_drawn_roads : Fn) : Env' → Hh → Sr :=
  (sSeq (sSet 3 (dOp oAdd (dC (.int 1)) (dCall f__law_draw (dCons (dV 0) (dCons (dV 2) dNil))))) (sSeq (sSet 4 (dCall f__law_some_names (dCons (dV 0) (dCons (dOp oAdd (dC (.int 1)) (dCall f__law_draw (dCons (dV 0) (dCons (dV 1) dNil)))) dNil)))) (sSeq (sSet 5 (dCall f__law_pick (dCons (dV 0) (dCons (dFz (dDisp (dCons (dC (.int 1)) (dCons (dC (.int 3)) (dCons (dC (.int 9)) (dCons (dOp oPow (dC (.int 10)) (dC (.int 30))) dNil)))))) dNil)))) (sSeq (sSetN 6 false (dComp (iVal (dV 4)) (gN 8) tYs (dCall f__law_drawn_place (dCons (dV 0) (dCons (dV 8) (dCons (dV 5) dNil)))) [8])) (sSeq (sSet 7 (dFz (dDisp (dCons (dC (.int 1)) (dCons (dOp oAdd (dC (.int 1)) (dCall f__law_draw (dCons (dV 0) (dCons (dV 3) dNil)))) (dCons (dOp oAdd (dC (.int 1)) (dCall f__law_draw (dCons (dV 0) (dCons (dV 3) dNil)))) (dCons (dOp oAdd (dC (.int 1)) (dCall f__law_draw (dCons (dV 0) (dCons (dOp oAdd (dV 3) (dC (.int 1))) dNil)))) dNil))))))) (sRet (dTup (dCons (dV 3) (dCons (dV 6) (dCons (dCall f__law_drawn_roads (dCons (dV 0) (dCons (dV 4) (dCons (dC (.int 12)) (dCons (dV 7) dNil))))) dNil))))))))))
theorem d__law_small {f__law_draw : Fn} {f__law_some_names : Fn} {f__law_pick : Fn} {f__law_drawn_place : Fn} {f__law_drawn_roads : Fn} (V : Vf K ca mg) (A__law_draw : FnA (mkG K ca) P w mg base k "_law_draw" f__law_draw) (A__law_some_names : FnA (mkG K ca) P w mg base k "_law_some_names" f__law_some_names) (A__law_pick : FnA (mkG K ca) P w mg base k "_law_pick" f__law_pick) (A__law_drawn_place : FnA (mkG K ca) P w mg base k "_law_drawn_place" f__law_drawn_place) (A__law_drawn_roads : FnA (mkG K ca) P w mg base k "_law_drawn_roads" f__law_drawn_roads) (hr : Room (k + 1) (A.deeper (envOfC "_law_small" (C8.fnScope (topS 53)) s.heap.objs.size f cdv))) :
    DSs (mkG K ca) (cxOf (L2.CX P w) P w K mg base N__law_small "_law_small" (C8.fnScope (topS 53)) f cdv A outer s H E) (fun c d _ H' => E c d H') (C8.fnBody (topS 53)) (k__law_small f__law_draw f__law_some_names f__law_pick f__law_drawn_place f__law_drawn_roads) :=
  (dss_cons (ds_set 3 (de_op (fun _ => oAdd_ok) de_int (de_call A__law_draw (hr.mono (by omega)) (da_cons (de_v 0) (da_cons (de_v 2) da_nil))))) (dss_cons (ds_set 4 (de_call A__law_some_names (hr.mono (by omega)) (da_cons (de_v 0) (da_cons (de_op (fun _ => oAdd_ok) de_int (de_call A__law_draw (hr.mono (by omega)) (da_cons (de_v 0) (da_cons (de_v 1) da_nil)))) da_nil)))) (dss_cons (ds_set 5 (de_call A__law_pick (hr.mono (by omega)) (da_cons (de_v 0) (da_cons (de_fz (dn_lst (da_cons de_int (da_cons de_int (da_cons de_int (da_cons (de_op (fun _ => oPow_ok) de_int de_int) da_nil)))))) da_nil)))) (dss_cons (ds_setLc (F := (gN 8)) (t := tYs) (f := (dCall f__law_drawn_place (dCons (dV 0) (dCons (dV 8) (dCons (dV 5) dNil))))) 6 false [("_law_name", 8)] (di_val (de_v 4)) (blkOk_by (by kernel_rfl)) (fun _ _ _ _ _ => (dg_name 8)) (fun _ _ _ _ _ => dts_nil) (fun _ _ _ _ _ => (de_call A__law_drawn_place (hr.mono (by omega)) (da_cons (de_v 0) (da_cons (de_v 8) (da_cons (de_v 5) da_nil)))))) (dss_cons (ds_set 7 (de_fz (dn_lst (da_cons de_int (da_cons (de_op (fun _ => oAdd_ok) de_int (de_call A__law_draw (hr.mono (by omega)) (da_cons (de_v 0) (da_cons (de_v 3) da_nil)))) (da_cons (de_op (fun _ => oAdd_ok) de_int (de_call A__law_draw (hr.mono (by omega)) (da_cons (de_v 0) (da_cons (de_v 3) da_nil)))) (da_cons (de_op (fun _ => oAdd_ok) de_int (de_call A__law_draw (hr.mono (by omega)) (da_cons (de_v 0) (da_cons (de_op (fun _ => oAdd_ok) (de_v 3) de_int) da_nil)))) da_nil))))))) (dss_one (ds_ret (de_tup (da_cons (de_v 3) (da_cons (de_v 6) (da_cons (de_call A__law_drawn_roads (hr.mono (by omega)) (da_cons (de_v 0) (da_cons (de_v 4) (da_cons de_int (da_cons (de_v 7) da_nil))))) da_nil)))))))))))
abbrev N__law_great : List Str := ["_law_pen_here", "_law_least", "_law_most", "_law_size", "_law_names", "_law_high", "_law_places", "_law_fuels", "_law_name"]
noncomputable def k__law_great (f__law_pick : Fn) (f__law_draw : Fn) (f__law_some_names : Fn) (f__law_drawn_place : Fn) (f__law_drawn_roads : Fn) : Env' → Hh → Sr :=
  (sSeq (sSet 3 (dCall f__law_pick (dCons (dV 0) (dCons (dFz (dDisp (dCons (dOp oPow (dC (.int 10)) (dC (.int 30))) (dCons (dOp oAdd (dC (.int 1)) (dCall f__law_draw (dCons (dV 0) (dCons (dOp oPow (dC (.int 10)) (dC (.int 30))) dNil)))) (dCons (dOp oAdd (dC (.int 1)) (dCall f__law_draw (dCons (dV 0) (dCons (dC (.int 1000)) dNil)))) dNil))))) dNil)))) (sSeq (sSet 4 (dCall f__law_some_names (dCons (dV 0) (dCons (dOp oAdd (dV 1) (dCall f__law_draw (dCons (dV 0) (dCons (dOp oAdd (dOp oSub (dV 2) (dV 1)) (dC (.int 1))) dNil)))) dNil)))) (sSeq (sSet 5 (dCall f__law_pick (dCons (dV 0) (dCons (dFz (dDisp (dCons (dC (.int 9)) (dCons (dC (.int 1000)) (dCons (dOp oPow (dC (.int 10)) (dC (.int 30))) dNil))))) dNil)))) (sSeq (sSetN 6 false (dComp (iVal (dV 4)) (gN 8) tYs (dCall f__law_drawn_place (dCons (dV 0) (dCons (dV 8) (dCons (dV 5) dNil)))) [8])) (sSeq (sSet 7 (dFz (dDisp (dCons (dC (.int 1)) (dCons (dV 3) (dCons (dOp oAdd (dC (.int 1)) (dCall f__law_draw (dCons (dV 0) (dCons (dV 3) dNil)))) (dCons (dOp oAdd (dC (.int 1)) (dOp oDiv (dV 3) (dOp oAdd (dC (.int 2)) (dCall f__law_draw (dCons (dV 0) (dCons (dC (.int 5)) dNil)))))) (dCons (dBlt bMax2 (dCons (dC (.int 1)) (dCons (dOp oSub (dV 3) (dCall f__law_draw (dCons (dV 0) (dCons (dC (.int 9)) dNil)))) dNil))) dNil)))))))) (sSeq (sSet 7 (dOp oAdd (dV 7) (dFz (dDisp (dCons (dOp oAdd (dC (.int 1)) (dCall f__law_draw (dCons (dV 0) (dCons (dV 3) dNil)))) (dCons (dBlt bMin2 (dCons (dOp oPow (dC (.int 10)) (dC (.int 30))) (dCons (dOp oAdd (dOp oAdd (dV 3) (dC (.int 1))) (dCall f__law_draw (dCons (dV 0) (dCons (dC (.int 9)) dNil)))) dNil))) dNil)))))) (sRet (dTup (dCons (dV 3) (dCons (dV 6) (dCons (dCall f__law_drawn_roads (dCons (dV 0) (dCons (dV 4) (dCons (dC (.int 40)) (dCons (dV 7) dNil))))) dNil)))))))))))
theorem d__law_great {f__law_pick : Fn} {f__law_draw : Fn} {f__law_some_names : Fn} {f__law_drawn_place : Fn} {f__law_drawn_roads : Fn} (V : Vf K ca mg) (A__law_pick : FnA (mkG K ca) P w mg base k "_law_pick" f__law_pick) (A__law_draw : FnA (mkG K ca) P w mg base k "_law_draw" f__law_draw) (A__law_some_names : FnA (mkG K ca) P w mg base k "_law_some_names" f__law_some_names) (A__law_drawn_place : FnA (mkG K ca) P w mg base k "_law_drawn_place" f__law_drawn_place) (A__law_drawn_roads : FnA (mkG K ca) P w mg base k "_law_drawn_roads" f__law_drawn_roads) (hr : Room (k + 1) (A.deeper (envOfC "_law_great" (C8.fnScope (topS 54)) s.heap.objs.size f cdv))) :
    DSs (mkG K ca) (cxOf (L2.CX P w) P w K mg base N__law_great "_law_great" (C8.fnScope (topS 54)) f cdv A outer s H E) (fun c d _ H' => E c d H') (C8.fnBody (topS 54)) (k__law_great f__law_pick f__law_draw f__law_some_names f__law_drawn_place f__law_drawn_roads) :=
  (dss_cons (ds_set 3 (de_call A__law_pick (hr.mono (by omega)) (da_cons (de_v 0) (da_cons (de_fz (dn_lst (da_cons (de_op (fun _ => oPow_ok) de_int de_int) (da_cons (de_op (fun _ => oAdd_ok) de_int (de_call A__law_draw (hr.mono (by omega)) (da_cons (de_v 0) (da_cons (de_op (fun _ => oPow_ok) de_int de_int) da_nil)))) (da_cons (de_op (fun _ => oAdd_ok) de_int (de_call A__law_draw (hr.mono (by omega)) (da_cons (de_v 0) (da_cons de_int da_nil)))) da_nil))))) da_nil)))) (dss_cons (ds_set 4 (de_call A__law_some_names (hr.mono (by omega)) (da_cons (de_v 0) (da_cons (de_op (fun _ => oAdd_ok) (de_v 1) (de_call A__law_draw (hr.mono (by omega)) (da_cons (de_v 0) (da_cons (de_op (fun _ => oAdd_ok) (de_op (fun _ => oSub_ok) (de_v 2) (de_v 1)) de_int) da_nil)))) da_nil)))) (dss_cons (ds_set 5 (de_call A__law_pick (hr.mono (by omega)) (da_cons (de_v 0) (da_cons (de_fz (dn_lst (da_cons de_int (da_cons de_int (da_cons (de_op (fun _ => oPow_ok) de_int de_int) da_nil))))) da_nil)))) (dss_cons (ds_setLc (F := (gN 8)) (t := tYs) (f := (dCall f__law_drawn_place (dCons (dV 0) (dCons (dV 8) (dCons (dV 5) dNil))))) 6 false [("_law_name", 8)] (di_val (de_v 4)) (blkOk_by (by kernel_rfl)) (fun _ _ _ _ _ => (dg_name 8)) (fun _ _ _ _ _ => dts_nil) (fun _ _ _ _ _ => (de_call A__law_drawn_place (hr.mono (by omega)) (da_cons (de_v 0) (da_cons (de_v 8) (da_cons (de_v 5) da_nil)))))) (dss_cons (ds_set 7 (de_fz (dn_lst (da_cons de_int (da_cons (de_v 3) (da_cons (de_op (fun _ => oAdd_ok) de_int (de_call A__law_draw (hr.mono (by omega)) (da_cons (de_v 0) (da_cons (de_v 3) da_nil)))) (da_cons (de_op (fun _ => oAdd_ok) de_int (de_op (fun _ => oDiv_ok) (de_v 3) (de_op (fun _ => oAdd_ok) de_int (de_call A__law_draw (hr.mono (by omega)) (da_cons (de_v 0) (da_cons de_int da_nil)))))) (da_cons (de_blt bMax2_ok (by decide +kernel) (by decide +kernel) (da_cons de_int (da_cons (de_op (fun _ => oSub_ok) (de_v 3) (de_call A__law_draw (hr.mono (by omega)) (da_cons (de_v 0) (da_cons de_int da_nil)))) da_nil))) da_nil)))))))) (dss_cons (ds_set 7 (de_op (fun _ => oAdd_ok) (de_v 7) (de_fz (dn_lst (da_cons (de_op (fun _ => oAdd_ok) de_int (de_call A__law_draw (hr.mono (by omega)) (da_cons (de_v 0) (da_cons (de_v 3) da_nil)))) (da_cons (de_blt bMin2_ok (by decide +kernel) (by decide +kernel) (da_cons (de_op (fun _ => oPow_ok) de_int de_int) (da_cons (de_op (fun _ => oAdd_ok) (de_op (fun _ => oAdd_ok) (de_v 3) de_int) (de_call A__law_draw (hr.mono (by omega)) (da_cons (de_v 0) (da_cons de_int da_nil)))) da_nil))) da_nil)))))) (dss_one (ds_ret (de_tup (da_cons (de_v 3) (da_cons (de_v 6) (da_cons (de_call A__law_drawn_roads (hr.mono (by omega)) (da_cons (de_v 0) (da_cons (de_v 4) (da_cons de_int (da_cons (de_v 7) da_nil))))) da_nil))))))))))))
abbrev N_is_integer : List Str := ["value"]
noncomputable def k_is_integer  : Env' → Hh → Sr :=
  (sRet (dAndV (dBlt (bIsi nCls subC) (dCons (dV 0) (dCons (dC (.ty "int")) dNil))) (dNotV (dBlt (bIsi nCls subC) (dCons (dV 0) (dCons (dC (.ty "bool")) dNil))))))
theorem d_is_integer  (V : Vf K ca mg)  (hr : Room (k + 1) (A.deeper (envOfC "is_integer" (C8.fnScope (topS 10)) s.heap.objs.size f cdv))) :
    DSs (mkG K ca) (cxOf (L2.CX P w) P w K mg base N_is_integer "is_integer" (C8.fnScope (topS 10)) f cdv A outer s H E) (fun c d _ H' => E c d H') (C8.fnBody (topS 10)) (k_is_integer ) :=
  (dss_one (ds_ret (de_and (de_blt (bIsi_ok V.isf) (by decide +kernel) (by decide +kernel) (da_cons (de_v 0) (da_cons (de_ty (by decide +kernel) (by decide +kernel)) da_nil))) (de_and1 (de_not (de_blt (bIsi_ok V.isf) (by decide +kernel) (by decide +kernel) (da_cons (de_v 0) (da_cons (de_ty (by decide +kernel) (by decide +kernel)) da_nil))))))))
abbrev N_is_between : List Str := ["value", "least", "most"]
noncomputable def k_is_between (f_is_integer : Fn) : Env' → Hh → Sr :=
  (sRet (dAndV (dCall f_is_integer (dCons (dV 0) dNil)) (dChain oLe oLe (dV 1) (dV 0) (dV 2))))
theorem d_is_between {f_is_integer : Fn} (V : Vf K ca mg) (A_is_integer : FnA (mkG K ca) P w mg base k "is_integer" f_is_integer) (hr : Room (k + 1) (A.deeper (envOfC "is_between" (C8.fnScope (topS 11)) s.heap.objs.size f cdv))) :
    DSs (mkG K ca) (cxOf (L2.CX P w) P w K mg base N_is_between "is_between" (C8.fnScope (topS 11)) f cdv A outer s H E) (fun c d _ H' => E c d H') (C8.fnBody (topS 11)) (k_is_between f_is_integer) :=
  (dss_one (ds_ret (de_and (de_call A_is_integer (hr.mono (by omega)) (da_cons (de_v 0) da_nil)) (de_and1 (de_chain (fun _ => oLe_ok) (fun _ => oLe_ok) (de_v 1) (de_v 0) (de_v 2))))))
abbrev N_is_size : List Str := ["value", "least"]
noncomputable def k_is_size (f_is_between : Fn) : Env' → Hh → Sr :=
  (sRet (dCall f_is_between (dCons (dV 0) (dCons (dV 1) (dCons (dC (.int 1000000000000000000000000000000)) dNil)))))
theorem d_is_size {f_is_between : Fn} (V : Vf K ca mg) (A_is_between : FnA (mkG K ca) P w mg base k "is_between" f_is_between) (hr : Room (k + 1) (A.deeper (envOfC "is_size" (C8.fnScope (topS 15)) s.heap.objs.size f cdv))) :
    DSs (mkG K ca) (cxOf (L2.CX P w) P w K mg base N_is_size "is_size" (C8.fnScope (topS 15)) f cdv A outer s H E) (fun c d _ H' => E c d H') (C8.fnBody (topS 15)) (k_is_size f_is_between) :=
  (dss_one (ds_ret (de_call A_is_between (hr.mono (by omega)) (da_cons (de_v 0) (da_cons (de_v 1) (da_cons (de_gint V.c_MAX_SIZE) da_nil))))))
abbrev N_is_list : List Str := ["value"]
noncomputable def k_is_list  : Env' → Hh → Sr :=
  (sRet (dBlt (bIsi nCls subC) (dCons (dV 0) (dCons (dTup (dCons (dC (.ty "list")) (dCons (dC (.ty "tuple")) dNil))) dNil))))
theorem d_is_list  (V : Vf K ca mg)  (hr : Room (k + 1) (A.deeper (envOfC "is_list" (C8.fnScope (topS 12)) s.heap.objs.size f cdv))) :
    DSs (mkG K ca) (cxOf (L2.CX P w) P w K mg base N_is_list "is_list" (C8.fnScope (topS 12)) f cdv A outer s H E) (fun c d _ H' => E c d H') (C8.fnBody (topS 12)) (k_is_list ) :=
  (dss_one (ds_ret (de_blt (bIsi_ok V.isf) (by decide +kernel) (by decide +kernel) (da_cons (de_v 0) (da_cons (de_tup (da_cons (de_ty (by decide +kernel) (by decide +kernel)) (da_cons (de_ty (by decide +kernel) (by decide +kernel)) da_nil))) da_nil)))))
abbrev N_is_name : List Str := ["value", "letter"]
noncomputable def k_is_name  : Env' → Hh → Sr :=
  (sSeq (sIf (dOr (dNot (dBl (dBlt (bIsi nCls subC) (dCons (dV 0) (dCons (dC (.ty "str")) dNil))))) (dNot (dBl (dChain oLe oLe (dC (.int 1)) (dBlt bLen (dCons (dV 0) dNil)) (dC (.int 8)))))) (sRet (dC (.bl false))) sNil) (sRet (dBlt bAll (dCons (dFz (dComp (iVal (dV 0)) (gN 1) tYs (dOp oIn (dV 1) (dC (.str "abcdefghijklmnopqrstuvwxyz"))) [1])) dNil))))
theorem d_is_name  (V : Vf K ca mg)  (hr : Room (k + 1) (A.deeper (envOfC "is_name" (C8.fnScope (topS 14)) s.heap.objs.size f cdv))) :
    DSs (mkG K ca) (cxOf (L2.CX P w) P w K mg base N_is_name "is_name" (C8.fnScope (topS 14)) f cdv A outer s H E) (fun c d _ H' => E c d H') (C8.fnBody (topS 14)) (k_is_name ) :=
  (dss_cons (ds_if (DW.dt (dw_or (dt_not (dt_val (de_blt (bIsi_ok V.isf) (by decide +kernel) (by decide +kernel) (da_cons (de_v 0) (da_cons (de_ty (by decide +kernel) (by decide +kernel)) da_nil))))) (dw_or1 (dt_not (dt_chain (fun _ => oLe_ok) (fun _ => oLe_ok) de_int (de_blt (fun _ => bLen_ok) (by decide +kernel) (by decide +kernel) (da_cons (de_v 0) da_nil)) (de_gint V.c_MAX_LETTERS)))))) (dss_one (ds_ret de_bl)) dss_nil) (dss_one (ds_ret (de_blt bAll_ok (by decide +kernel) (by decide +kernel) (da_cons (de_fz (dn_lc (F := (gN 1)) (t := tYs) (f := (dOp oIn (dV 1) (dC (.str "abcdefghijklmnopqrstuvwxyz")))) [("letter", 1)] (di_val (de_v 0)) (blkOk_by (by kernel_rfl)) (fun _ _ _ _ _ => (dg_name 1)) (fun _ _ _ _ _ => dts_nil) (fun _ _ _ _ _ => (de_cmp oIn_ok (de_v 1) (de_gstr V.c_LETTERS))))) da_nil)))))
abbrev N_is_tuple_of : List Str := ["value", "size"]
noncomputable def k_is_tuple_of  : Env' → Hh → Sr :=
  (sRet (dAndV (dBlt (bIsi nCls subC) (dCons (dV 0) (dCons (dC (.ty "tuple")) dNil))) (dOp oEqC (dBlt bLen (dCons (dV 0) dNil)) (dV 1))))
theorem d_is_tuple_of  (V : Vf K ca mg)  (hr : Room (k + 1) (A.deeper (envOfC "is_tuple_of" (C8.fnScope (topS 13)) s.heap.objs.size f cdv))) :
    DSs (mkG K ca) (cxOf (L2.CX P w) P w K mg base N_is_tuple_of "is_tuple_of" (C8.fnScope (topS 13)) f cdv A outer s H E) (fun c d _ H' => E c d H') (C8.fnBody (topS 13)) (k_is_tuple_of ) :=
  (dss_one (ds_ret (de_and (de_blt (bIsi_ok V.isf) (by decide +kernel) (by decide +kernel) (da_cons (de_v 0) (da_cons (de_ty (by decide +kernel) (by decide +kernel)) da_nil))) (de_and1 (de_cmp oEqC_ok (de_blt (fun _ => bLen_ok) (by decide +kernel) (by decide +kernel) (da_cons (de_v 0) da_nil)) (de_v 1))))))
abbrev N_is_price : List Str := ["value"]
noncomputable def k_is_price (f_is_size : Fn) : Env' → Hh → Sr :=
  (sRet (dOrV (dOp oIsN (dV 0) (dC .non)) (dCall f_is_size (dCons (dV 0) (dCons (dC (.int 0)) dNil)))))
theorem d_is_price {f_is_size : Fn} (V : Vf K ca mg) (A_is_size : FnA (mkG K ca) P w mg base k "is_size" f_is_size) (hr : Room (k + 1) (A.deeper (envOfC "is_price" (C8.fnScope (topS 16)) s.heap.objs.size f cdv))) :
    DSs (mkG K ca) (cxOf (L2.CX P w) P w K mg base N_is_price "is_price" (C8.fnScope (topS 16)) f cdv A outer s H E) (fun c d _ H' => E c d H') (C8.fnBody (topS 16)) (k_is_price f_is_size) :=
  (dss_one (ds_ret (de_or (de_cmp (fun _ => oIsN_ok) (de_v 0) de_non) (de_and1 (de_call A_is_size (hr.mono (by omega)) (da_cons (de_v 0) (da_cons de_int da_nil)))))))
abbrev N_are_prices : List Str := ["value"]
noncomputable def k_are_prices (f_is_price : Fn) (f_is_tuple_of : Fn) : Env' → Hh → Sr :=
  (sSeq (sIf (dOr (dNot (dBl (dCall f_is_tuple_of (dCons (dV 0) (dCons (dC (.int 2)) dNil))))) (dOr (dNot (dBl (dCall f_is_price (dCons (dIx (dV 0) (dC (.int 0))) dNil)))) (dNot (dBl (dCall f_is_price (dCons (dIx (dV 0) (dC (.int 1))) dNil)))))) (sRet (dC (.bl false))) sNil) (sRet (dOrV (dOp oIn (dC .non) (dV 0)) (dOp oLe (dIx (dV 0) (dC (.int 1))) (dIx (dV 0) (dC (.int 0)))))))
theorem d_are_prices {f_is_price : Fn} {f_is_tuple_of : Fn} (V : Vf K ca mg) (A_is_price : FnA (mkG K ca) P w mg base k "is_price" f_is_price) (A_is_tuple_of : FnA (mkG K ca) P w mg base k "is_tuple_of" f_is_tuple_of) (hr : Room (k + 1) (A.deeper (envOfC "are_prices" (C8.fnScope (topS 17)) s.heap.objs.size f cdv))) :
    DSs (mkG K ca) (cxOf (L2.CX P w) P w K mg base N_are_prices "are_prices" (C8.fnScope (topS 17)) f cdv A outer s H E) (fun c d _ H' => E c d H') (C8.fnBody (topS 17)) (k_are_prices f_is_price f_is_tuple_of) :=
  (dss_cons (ds_if (DW.dt (dw_or (dt_not (dt_val (de_call A_is_tuple_of (hr.mono (by omega)) (da_cons (de_v 0) (da_cons de_int da_nil))))) (dw_or (dt_not (dt_val (de_call A_is_price (hr.mono (by omega)) (da_cons (de_it (de_v 0) de_int) da_nil)))) (dw_or1 (dt_not (dt_val (de_call A_is_price (hr.mono (by omega)) (da_cons (de_it (de_v 0) de_int) da_nil)))))))) (dss_one (ds_ret de_bl)) dss_nil) (dss_one (ds_ret (de_or (de_cmp oIn_ok de_non (de_v 0)) (de_and1 (de_cmp (fun _ => oLe_ok) (de_it (de_v 0) de_int) (de_it (de_v 0) de_int)))))))
abbrev N_is_place : List Str := ["value"]
noncomputable def k_is_place (f_is_name : Fn) (f_is_tuple_of : Fn) (f_is_size : Fn) (f_are_prices : Fn) : Env' → Hh → Sr :=
  (sSeq (sIf (dOr (dNot (dBl (dCall f_is_tuple_of (dCons (dV 0) (dCons (dC (.int 4)) dNil))))) (dNot (dBl (dCall f_is_name (dCons (dIx (dV 0) (dC (.int 0))) dNil))))) (sRet (dC (.bl false))) sNil) (sRet (dAndV (dCall f_are_prices (dCons (dSl (dV 0) (oS (dC (.int 1))) (oS (dC (.int 3)))) dNil)) (dCall f_is_size (dCons (dIx (dV 0) (dC (.int 3))) (dCons (dC (.int 0)) dNil))))))
theorem d_is_place {f_is_name : Fn} {f_is_tuple_of : Fn} {f_is_size : Fn} {f_are_prices : Fn} (V : Vf K ca mg) (A_is_name : FnA (mkG K ca) P w mg base k "is_name" f_is_name) (A_is_tuple_of : FnA (mkG K ca) P w mg base k "is_tuple_of" f_is_tuple_of) (A_is_size : FnA (mkG K ca) P w mg base k "is_size" f_is_size) (A_are_prices : FnA (mkG K ca) P w mg base k "are_prices" f_are_prices) (hr : Room (k + 1) (A.deeper (envOfC "is_place" (C8.fnScope (topS 18)) s.heap.objs.size f cdv))) :
    DSs (mkG K ca) (cxOf (L2.CX P w) P w K mg base N_is_place "is_place" (C8.fnScope (topS 18)) f cdv A outer s H E) (fun c d _ H' => E c d H') (C8.fnBody (topS 18)) (k_is_place f_is_name f_is_tuple_of f_is_size f_are_prices) :=
  (dss_cons (ds_if (DW.dt (dw_or (dt_not (dt_val (de_call A_is_tuple_of (hr.mono (by omega)) (da_cons (de_v 0) (da_cons de_int da_nil))))) (dw_or1 (dt_not (dt_val (de_call A_is_name (hr.mono (by omega)) (da_cons (de_it (de_v 0) de_int) da_nil))))))) (dss_one (ds_ret de_bl)) dss_nil) (dss_one (ds_ret (de_and (de_call A_are_prices (hr.mono (by omega)) (da_cons (de_slice (de_v 0) (do_some de_int) (do_some de_int)) da_nil)) (de_and1 (de_call A_is_size (hr.mono (by omega)) (da_cons (de_it (de_v 0) de_int) (da_cons de_int da_nil))))))))
abbrev N_checked_places : List Str := ["places", "found", "place", "name"]
noncomputable def k_checked_places (f_is_list : Fn) (f_is_place : Fn) : Env' → Hh → Sr :=
  (sSeq (sIf (dNot (dBl (dCall f_is_list (dCons (dV 0) dNil)))) sNo sNil) (sSeq (sSet 1 (dAlM false (fun _ h => Rs.ok [] h))) (sSeq (sFor (iVal (dV 0)) (gN 2) (sSeq (sIf (dOr (dNot (dBl (dCall f_is_place (dCons (dV 2) dNil)))) (dBl (dOp oIn (dIx (dV 2) (dC (.int 0))) (dV 1)))) sNo sNil) (sAsg (dV 2) (gSb (dV 1) (dIx (dV 2) (dC (.int 0)))))) [2]) (sSeq (sIf (dBl (dOp oEqC (dV 1) (dFzM false (fun _ h => Rs.ok [] h)))) sNo sNil) (sSeq (sIf (dBl (dOp oGt (dBlt bLen (dCons (dV 1) dNil)) (dCon (.int 10) (dC (.cls 0)) 0))) sNo sNil) (sRet (dBlt bTup (dCons (dFz (dComp (iVal (dBlt bSort (dCons (dV 1) dNil))) (gN 3) tYs (dIx (dV 1) (dV 3)) [3])) dNil))))))))
theorem d_checked_places {f_is_list : Fn} {f_is_place : Fn} (V : Vf K ca mg) (A_is_list : FnA (mkG K ca) P w mg base k "is_list" f_is_list) (A_is_place : FnA (mkG K ca) P w mg base k "is_place" f_is_place) (hr : Room (k + 1) (A.deeper (envOfC "checked_places" (C8.fnScope (topS 41)) s.heap.objs.size f cdv))) :
    DSs (mkG K ca) (cxOf (L2.CX P w) P w K mg base N_checked_places "checked_places" (C8.fnScope (topS 41)) f cdv A outer s H E) (fun c d _ H' => E c d H') (C8.fnBody (topS 41)) (k_checked_places f_is_list f_is_place) :=
  (dss_cons (ds_if (dt_not (dt_val (de_call A_is_list (hr.mono (by omega)) (da_cons (de_v 0) da_nil)))) (dss_one ds_no) dss_nil) (dss_cons (ds_set 1 (de_alM (dm_new false))) (dss_cons (ds_for [2] (di_val (de_v 0)) (dg_name 2) (dss_cons (ds_if (DW.dt (dw_or (dt_not (dt_val (de_call A_is_place (hr.mono (by omega)) (da_cons (de_v 2) da_nil)))) (dw_or1 (dt_cmp oIn_ok (de_it (de_v 2) de_int) (de_v 1))))) (dss_one ds_no) dss_nil) (dss_one (ds_asg (de_v 2) (dg_sub (de_v 1) (de_it (de_v 2) de_int)))))) (dss_cons (ds_if (dt_cmp oEqC_ok (de_v 1) (de_fzM (tt := false) (dm_new false))) (dss_one ds_no) dss_nil) (dss_cons (ds_if (dt_cmp (fun _ => oGt_ok) (de_blt (fun _ => bLen_ok) (by decide +kernel) (by decide +kernel) (da_cons (de_v 1) da_nil)) (de_cvalE V.cv_MAX_PLACES (de_gcls V.k_Network))) (dss_one ds_no) dss_nil) (dss_one (ds_ret (de_bty (fun _ => bTup_ok) (by decide +kernel) (by decide +kernel) (da_cons (de_fz (dn_lc (F := (gN 3)) (t := tYs) (f := (dIx (dV 1) (dV 3))) [("name", 3)] (di_val (de_blt bSort_ok (by decide +kernel) (by decide +kernel) (da_cons (de_v 1) da_nil))) (blkOk_by (by kernel_rfl)) (fun _ _ _ _ _ => (dg_name 3)) (fun _ _ _ _ _ => dts_nil) (fun _ _ _ _ _ => (de_it (de_v 1) (de_v 3))))) da_nil)))))))))
abbrev N_is_road : List Str := ["value", "names", "u", "v", "use"]
noncomputable def k_is_road (f_is_size : Fn) (f_is_tuple_of : Fn) (f_is_name : Fn) : Env' → Hh → Sr :=
  (sSeq (sIf (dOr (dNot (dBl (dCall f_is_tuple_of (dCons (dV 0) (dCons (dC (.int 3)) dNil))))) (dNot (dBl (dCall f_is_size (dCons (dIx (dV 0) (dC (.int 2))) (dCons (dC (.int 1)) dNil)))))) (sRet (dC (.bl false))) sNil) (sSeq (sAsg (dV 0) (gT 3 (gsCons (gN 2) (gsCons (gN 3) (gsCons (gN 4) gsNil))))) (sRet (dAndV (dCall f_is_name (dCons (dV 2) dNil)) (dAndV (dCall f_is_name (dCons (dV 3) dNil)) (dAndV (dOp oNeC (dV 2) (dV 3)) (dAndV (dOp oIn (dV 2) (dV 1)) (dOp oIn (dV 3) (dV 1)))))))))
theorem d_is_road {f_is_size : Fn} {f_is_tuple_of : Fn} {f_is_name : Fn} (V : Vf K ca mg) (A_is_size : FnA (mkG K ca) P w mg base k "is_size" f_is_size) (A_is_tuple_of : FnA (mkG K ca) P w mg base k "is_tuple_of" f_is_tuple_of) (A_is_name : FnA (mkG K ca) P w mg base k "is_name" f_is_name) (hr : Room (k + 1) (A.deeper (envOfC "is_road" (C8.fnScope (topS 19)) s.heap.objs.size f cdv))) :
    DSs (mkG K ca) (cxOf (L2.CX P w) P w K mg base N_is_road "is_road" (C8.fnScope (topS 19)) f cdv A outer s H E) (fun c d _ H' => E c d H') (C8.fnBody (topS 19)) (k_is_road f_is_size f_is_tuple_of f_is_name) :=
  (dss_cons (ds_if (DW.dt (dw_or (dt_not (dt_val (de_call A_is_tuple_of (hr.mono (by omega)) (da_cons (de_v 0) (da_cons de_int da_nil))))) (dw_or1 (dt_not (dt_val (de_call A_is_size (hr.mono (by omega)) (da_cons (de_it (de_v 0) de_int) (da_cons de_int da_nil)))))))) (dss_one (ds_ret de_bl)) dss_nil) (dss_cons (ds_asg (de_v 0) (dg_tup 3 (dgs_cons (dg_name 2) (dgs_cons (dg_name 3) (dgs_cons (dg_name 4) dgs_nil))))) (dss_one (ds_ret (de_and (de_call A_is_name (hr.mono (by omega)) (da_cons (de_v 2) da_nil)) (de_and (de_call A_is_name (hr.mono (by omega)) (da_cons (de_v 3) da_nil)) (de_and (de_cmp oNeC_ok (de_v 2) (de_v 3)) (de_and (de_cmp oIn_ok (de_v 2) (de_v 1)) (de_and1 (de_cmp oIn_ok (de_v 3) (de_v 1)))))))))))
abbrev N_checked_roads : List Str := ["roads", "names", "found", "road", "pair"]
noncomputable def k_checked_roads (f_is_list : Fn) (f_is_road : Fn) : Env' → Hh → Sr :=
  (sSeq (sIf (dNot (dBl (dCall f_is_list (dCons (dV 0) dNil)))) sNo sNil) (sSeq (sSet 2 (dAlM true (fun _ h => Rs.ok [] h))) (sSeq (sFor (iVal (dV 0)) (gN 3) (sSeq (sIf (dOr (dNot (dBl (dCall f_is_road (dCons (dV 3) (dCons (dV 1) dNil))))) (dBl (dOp oIn (dSl (dV 3) oN (oS (dC (.int 2)))) (dV 2)))) sNo sNil) (sAsg (dV 3) (gSb (dV 2) (dSl (dV 3) oN (oS (dC (.int 2))))))) [3]) (sSeq (sIf (dBl (dOp oGt (dBlt bLen (dCons (dV 2) dNil)) (dCon (.int 40) (dC (.cls 0)) 0))) sNo sNil) (sRet (dBlt bTup (dCons (dFz (dComp (iVal (dBlt bSort (dCons (dV 2) dNil))) (gN 4) tYs (dIx (dV 2) (dV 4)) [4])) dNil)))))))
theorem d_checked_roads {f_is_list : Fn} {f_is_road : Fn} (V : Vf K ca mg) (A_is_list : FnA (mkG K ca) P w mg base k "is_list" f_is_list) (A_is_road : FnA (mkG K ca) P w mg base k "is_road" f_is_road) (hr : Room (k + 1) (A.deeper (envOfC "checked_roads" (C8.fnScope (topS 42)) s.heap.objs.size f cdv))) :
    DSs (mkG K ca) (cxOf (L2.CX P w) P w K mg base N_checked_roads "checked_roads" (C8.fnScope (topS 42)) f cdv A outer s H E) (fun c d _ H' => E c d H') (C8.fnBody (topS 42)) (k_checked_roads f_is_list f_is_road) :=
  (dss_cons (ds_if (dt_not (dt_val (de_call A_is_list (hr.mono (by omega)) (da_cons (de_v 0) da_nil)))) (dss_one ds_no) dss_nil) (dss_cons (ds_set 2 (de_alM (dm_new true))) (dss_cons (ds_for [3] (di_val (de_v 0)) (dg_name 3) (dss_cons (ds_if (DW.dt (dw_or (dt_not (dt_val (de_call A_is_road (hr.mono (by omega)) (da_cons (de_v 3) (da_cons (de_v 1) da_nil))))) (dw_or1 (dt_cmp oIn_ok (de_slice (de_v 3) do_none (do_some de_int)) (de_v 2))))) (dss_one ds_no) dss_nil) (dss_one (ds_asg (de_v 3) (dg_sub (de_v 2) (de_slice (de_v 3) do_none (do_some de_int))))))) (dss_cons (ds_if (dt_cmp (fun _ => oGt_ok) (de_blt (fun _ => bLen_ok) (by decide +kernel) (by decide +kernel) (da_cons (de_v 2) da_nil)) (de_cvalE V.cv_MAX_ROADS (de_gcls V.k_Network))) (dss_one ds_no) dss_nil) (dss_one (ds_ret (de_bty (fun _ => bTup_ok) (by decide +kernel) (by decide +kernel) (da_cons (de_fz (dn_lc (F := (gN 4)) (t := tYs) (f := (dIx (dV 2) (dV 4))) [("pair", 4)] (di_val (de_blt bSort_ok (by decide +kernel) (by decide +kernel) (da_cons (de_v 2) da_nil))) (blkOk_by (by kernel_rfl)) (fun _ _ _ _ _ => (dg_name 4)) (fun _ _ _ _ _ => dts_nil) (fun _ _ _ _ _ => (de_it (de_v 2) (de_v 4))))) da_nil))))))))
abbrev N_new_Network : List Str := ["self", "tank", "places", "roads", "place"]
noncomputable def k_new_Network (f_is_size : Fn) (f_checked_places : Fn) (f_checked_roads : Fn) : Env' → Hh → Sr :=
  (sSeq (sIf (dNot (dBl (dCall f_is_size (dCons (dV 1) (dCons (dC (.int 1)) dNil))))) sNo sNil) (sSeq (sAttr 0 (dV 0) (dV 1)) (sSeq (sAttr 1 (dV 0) (dCall f_checked_places (dCons (dV 2) dNil))) (sSeq (sAttr 2 (dV 0) (dBlt bTup (dCons (dFz (dComp (iVal (dAttr 1 (dV 0))) (gN 4) tYs (dIx (dV 4) (dC (.int 0))) [4])) dNil))) (sSeq (sAttr 3 (dV 0) (dFzM false (dCompM (iVal (dAttr 1 (dV 0))) (gN 4) tYs (dIx (dV 4) (dC (.int 0))) (dV 4) [4]))) (sAttr 4 (dV 0) (dCall f_checked_roads (dCons (dV 3) (dCons (dAttr 2 (dV 0)) dNil)))))))))
theorem d_new_Network {f_is_size : Fn} {f_checked_places : Fn} {f_checked_roads : Fn} (V : Vf K ca mg) (A_is_size : FnA (mkG K ca) P w mg base k "is_size" f_is_size) (A_checked_places : FnA (mkG K ca) P w mg base k "checked_places" f_checked_places) (A_checked_roads : FnA (mkG K ca) P w mg base k "checked_roads" f_checked_roads) (hr : Room (k + 1) (A.deeper (envOfC "Network.__init__" (C8.fnScope (inS 44 3)) s.heap.objs.size f cdv))) :
    DSs (mkG K ca) (cxOf (L2.CX P w) P w K mg base N_new_Network "Network.__init__" (C8.fnScope (inS 44 3)) f cdv A outer s H E) (fun c d _ H' => E c d H') (C8.fnBody (inS 44 3)) (k_new_Network f_is_size f_checked_places f_checked_roads) :=
  (dss_cons (ds_if (dt_not (dt_val (de_call A_is_size (hr.mono (by omega)) (da_cons (de_v 1) (da_cons de_int da_nil))))) (dss_one ds_no) dss_nil) (dss_cons (ds_attr 0 (de_v 0) (de_v 1) (hf := (by decide : 0 < 5))) (dss_cons (ds_attr 1 (de_v 0) (de_call A_checked_places (hr.mono (by omega)) (da_cons (de_v 2) da_nil)) (hf := (by decide : 1 < 5))) (dss_cons (ds_attr 2 (de_v 0) (de_bty (fun _ => bTup_ok) (by decide +kernel) (by decide +kernel) (da_cons (de_fz (dn_lc (F := (gN 4)) (t := tYs) (f := (dIx (dV 4) (dC (.int 0)))) [("place", 4)] (di_val (de_attr 1 (de_v 0) (hf := (by decide : 1 < 5)))) (blkOk_by (by kernel_rfl)) (fun _ _ _ _ _ => (dg_name 4)) (fun _ _ _ _ _ => dts_nil) (fun _ _ _ _ _ => (de_it (de_v 4) de_int)))) da_nil)) (hf := (by decide : 2 < 5))) (dss_cons (ds_attr 3 (de_v 0) (de_fzM (tt := false) (dm_dc (F := (gN 4)) (t := tYs) (fk := (dIx (dV 4) (dC (.int 0)))) (f := (dV 4)) [("place", 4)] (di_val (de_attr 1 (de_v 0) (hf := (by decide : 1 < 5)))) (blkOk_by (by kernel_rfl)) (fun _ _ _ _ _ => (dg_name 4)) (fun _ _ _ _ _ => dts_nil) (fun _ _ _ _ _ => (de_it (de_v 4) de_int)) (fun _ _ _ _ _ => (de_v 4)))) (hf := (by decide : 3 < 5))) (dss_one (ds_attr 4 (de_v 0) (de_call A_checked_roads (hr.mono (by omega)) (da_cons (de_v 3) (da_cons (de_attr 2 (de_v 0) (hf := (by decide : 2 < 5))) da_nil))) (hf := (by decide : 4 < 5)))))))))
abbrev N__law_made : List Str := ["_law_plain"]
noncomputable def k__law_made (f_new_Network : Fn) : Env' → Hh → Sr :=
  (sRet (dMake 0 f_new_Network (dCons (dIx (dV 0) (dC (.int 0))) (dCons (dIx (dV 0) (dC (.int 1))) (dCons (dIx (dV 0) (dC (.int 2))) dNil)))))
theorem d__law_made {f_new_Network : Fn} (V : Vf K ca mg) (M_Network : MkA (mkG K ca) P w mg base k 0 "Network" f_new_Network) (hr : Room (k + 1) (A.deeper (envOfC "_law_made" (C8.fnScope (topS 55)) s.heap.objs.size f cdv))) :
    DSs (mkG K ca) (cxOf (L2.CX P w) P w K mg base N__law_made "_law_made" (C8.fnScope (topS 55)) f cdv A outer s H E) (fun c d _ H' => E c d H') (C8.fnBody (topS 55)) (k__law_made f_new_Network) :=
  (dss_one (ds_ret (de_make M_Network V.cl_Network hr (da_cons (de_it (de_v 0) de_int) (da_cons (de_it (de_v 0) de_int) (da_cons (de_it (de_v 0) de_int) da_nil))))))
abbrev N__law_names_of : List Str := ["_law_plain", "_law_place"]
noncomputable def k__law_names_of  : Env' → Hh → Sr :=
  (sRet (dBlt bSort (dCons (dFz (dComp (iVal (dIx (dV 0) (dC (.int 1)))) (gN 1) tYs (dIx (dV 1) (dC (.int 0))) [1])) dNil)))
theorem d__law_names_of  (V : Vf K ca mg)  (hr : Room (k + 1) (A.deeper (envOfC "_law_names_of" (C8.fnScope (topS 57)) s.heap.objs.size f cdv))) :
    DSs (mkG K ca) (cxOf (L2.CX P w) P w K mg base N__law_names_of "_law_names_of" (C8.fnScope (topS 57)) f cdv A outer s H E) (fun c d _ H' => E c d H') (C8.fnBody (topS 57)) (k__law_names_of ) :=
  (dss_one (ds_ret (de_blt bSort_ok (by decide +kernel) (by decide +kernel) (da_cons (de_fz (dn_lc (F := (gN 1)) (t := tYs) (f := (dIx (dV 1) (dC (.int 0)))) [("_law_place", 1)] (di_val (de_it (de_v 0) de_int)) (blkOk_by (by kernel_rfl)) (fun _ _ _ _ _ => (dg_name 1)) (fun _ _ _ _ _ => dts_nil) (fun _ _ _ _ _ => (de_it (de_v 1) de_int)))) da_nil))))
abbrev N_m_need_place : List Str := ["self", "name"]
noncomputable def k_m_need_place (f_is_name : Fn) : Env' → Hh → Sr :=
  (sIf (dOr (dNot (dBl (dCall f_is_name (dCons (dV 1) dNil)))) (dBl (dOp oNin (dV 1) (dAttr 2 (dV 0))))) sNo sNil)
theorem d_m_need_place {f_is_name : Fn} (V : Vf K ca mg) (A_is_name : FnA (mkG K ca) P w mg base k "is_name" f_is_name) (hr : Room (k + 1) (A.deeper (envOfC "Network.need_place" (C8.fnScope (inS 44 18)) s.heap.objs.size f cdv))) :
    DSs (mkG K ca) (cxOf (L2.CX P w) P w K mg base N_m_need_place "Network.need_place" (C8.fnScope (inS 44 18)) f cdv A outer s H E) (fun c d _ H' => E c d H') (C8.fnBody (inS 44 18)) (k_m_need_place f_is_name) :=
  (dss_one (ds_if (DW.dt (dw_or (dt_not (dt_val (de_call A_is_name (hr.mono (by omega)) (da_cons (de_v 1) da_nil)))) (dw_or1 (dt_cmp oNin_ok (de_v 1) (de_attr 2 (de_v 0) (hf := (by decide : 2 < 5))))))) (dss_one ds_no) dss_nil))
abbrev N_g_roads_from : List Str := ["self", "place", "u", "v", "use"]
noncomputable def kS_g_roads_from (f_m_need_place : Fn) : Env' → Hh → Sr := (sExpr (dMeth 0 f_m_need_place (dV 0) (dCons (dV 1) dNil)))
noncomputable def kI_g_roads_from (f_m_need_place : Fn) : Env' → Hh → Rs D := (dAttr 4 (dV 0))
noncomputable def kG_g_roads_from (f_m_need_place : Fn) : GD := (gT 3 (gsCons (gN 2) (gsCons (gN 3) (gsCons (gN 4) gsNil))))
noncomputable def kT_g_roads_from (f_m_need_place : Fn) : Env' → Hh → Rs Bool := (dBl (dOp oEqC (dV 2) (dV 1)))
noncomputable def kE_g_roads_from (f_m_need_place : Fn) : Env' → Hh → Rs D := (dTup (dCons (dV 3) (dCons (dV 4) dNil)))
noncomputable def k_g_roads_from (f_m_need_place : Fn) : FnL := genF (kS_g_roads_from f_m_need_place) (kI_g_roads_from f_m_need_place) (kG_g_roads_from f_m_need_place) (kT_g_roads_from f_m_need_place) (kE_g_roads_from f_m_need_place) [2, 3, 4] 3
theorem dS_g_roads_from {f_m_need_place : Fn} {L : Addr} (V : Vf K ca mg) (T_need_place : MeA (mkG K ca) P w mg base k 0 "need_place" f_m_need_place) (hr : Room (k + 1) (A.deeper (envOfC "Network.roads_from" (C8.fnScope (inS 44 20)) L f cdv))) :
    DS (mkG K ca) (gxL P w K mg base N_g_roads_from "Network.roads_from" (C8.fnScope (inS 44 20)) f cdv A outer L s H) noW (gS0 (C8.fnBody (inS 44 20))) (kS_g_roads_from f_m_need_place) :=
  (ds_expr (de_meth T_need_place V.cl_Network.cls (fun f hf => nmF_ne "need_place" (by decide +kernel) f hf) (hr.mono (by omega)) (de_v 0) (da_cons (de_v 1) da_nil)))
theorem dI_g_roads_from {f_m_need_place : Fn} {L : Addr} (V : Vf K ca mg) (T_need_place : MeA (mkG K ca) P w mg base k 0 "need_place" f_m_need_place) (hr : Room (k + 1) (A.deeper (envOfC "Network.roads_from" (C8.fnScope (inS 44 20)) L f cdv))) :
    DE (mkG K ca) (gxL P w K mg base N_g_roads_from "Network.roads_from" (C8.fnScope (inS 44 20)) f cdv A outer L s H) noW (gIt (gFo (C8.fnBody (inS 44 20)))) (kI_g_roads_from f_m_need_place) :=
  (de_attr 4 (de_v 0) (hf := (by decide : 4 < 5)))
theorem dG_g_roads_from {f_m_need_place : Fn} {L : Addr} (V : Vf K ca mg) (T_need_place : MeA (mkG K ca) P w mg base k 0 "need_place" f_m_need_place) (hr : Room (k + 1) (A.deeper (envOfC "Network.roads_from" (C8.fnScope (inS 44 20)) L f cdv))) :
    DG (mkG K ca) (gxL P w K mg base N_g_roads_from "Network.roads_from" (C8.fnScope (inS 44 20)) f cdv A outer L s H) noW (gTg (gFo (C8.fnBody (inS 44 20)))) (kG_g_roads_from f_m_need_place) [2, 3, 4] :=
  (dg_tup 3 (dgs_cons (dg_name 2) (dgs_cons (dg_name 3) (dgs_cons (dg_name 4) dgs_nil))))
theorem dT_g_roads_from {f_m_need_place : Fn} {L : Addr} (V : Vf K ca mg) (T_need_place : MeA (mkG K ca) P w mg base k 0 "need_place" f_m_need_place) (hr : Room (k + 1) (A.deeper (envOfC "Network.roads_from" (C8.fnScope (inS 44 20)) L f cdv))) :
    DT (mkG K ca) (gxL P w K mg base N_g_roads_from "Network.roads_from" (C8.fnScope (inS 44 20)) f cdv A outer L s H) noW (gTe (gIf (gFo (C8.fnBody (inS 44 20))))) (kT_g_roads_from f_m_need_place) :=
  (dt_cmp oEqC_ok (de_v 2) (de_v 1))
theorem dE_g_roads_from {f_m_need_place : Fn} {L : Addr} (V : Vf K ca mg) (T_need_place : MeA (mkG K ca) P w mg base k 0 "need_place" f_m_need_place) (hr : Room (k + 1) (A.deeper (envOfC "Network.roads_from" (C8.fnScope (inS 44 20)) L f cdv))) :
    DE (mkG K ca) (gxL P w K mg base N_g_roads_from "Network.roads_from" (C8.fnScope (inS 44 20)) f cdv A outer L s H) noW (gEl (gEx (gIf (gFo (C8.fnBody (inS 44 20)))))) (kE_g_roads_from f_m_need_place) :=
  (de_tup (da_cons (de_v 3) (da_cons (de_v 4) da_nil)))
theorem form_g_roads_from : C8.fnBody (inS 44 20) = gForm (C8.fnBody (inS 44 20)) := by rfl
abbrev N_searched : List Str := ["network", "u", "found", "before", "done", "turn", "rows", "total", "here", "v", "more", "name"]
noncomputable def k_searched (f_g_roads_from : FnL) : Env' → Hh → Sr :=
  (sSeq (sAsg (dTup (dCons (dAlM false (mDisp (pCons (dV 1) (dC (.int 0)) pNil))) (dCons (dAlM false (fun _ h => Rs.ok [] h)) (dCons (dAl (dDisp dNil)) dNil)))) (gT 3 (gsCons (gN 2) (gsCons (gN 3) (gsCons (gN 4) gsNil))))) (sSeq (sFor (iRng1 (dCons (dC (.int 10)) dNil)) (gN 5) (sSeq (sLock 2 (sSetN 6 false (dComp (iKeysD (dV 2)) (gN 11) (dBl (dOp oNin (dV 11) (dV 4))) (dTup (dCons (dIx (dV 2) (dV 11)) (dCons (dV 11) dNil))) [11]))) (sIf (dBl (dOp oNeC (dV 6) (dFz (dDisp dNil)))) (sSeq (sAsg (dBlt bMinD (dCons (dV 6) dNil)) (gT 2 (gsCons (gN 7) (gsCons (gN 8) gsNil)))) (sSeq (sExpr (dBm isL mAppend (dV 4) (dCons (dV 8) dNil))) (sForG 0 f_g_roads_from (dV 0) (dCons (dV 8) dNil) (gT 2 (gsCons (gN 9) (gsCons (gN 10) gsNil))) (sIf (dOr (dBl (dOp oNin (dV 9) (dV 2))) (dBl (dOp oLt (dOp oAdd (dV 7) (dV 10)) (dIx (dV 2) (dV 9))))) (sAsg (dTup (dCons (dOp oAdd (dV 7) (dV 10)) (dCons (dV 8) dNil))) (gT 2 (gsCons (gSb (dV 2) (dV 9)) (gsCons (gSb (dV 3) (dV 9)) gsNil)))) sNil) [9, 10]))) sNil)) [5]) (sRet (dTup (dCons (dV 2) (dCons (dV 3) dNil))))))
theorem d_searched {f_g_roads_from : FnL} (V : Vf K ca mg) (U_roads_from : GeA (mkG K ca) P w mg base k 0 "roads_from" f_g_roads_from) (hr : Room (k + 1) (A.deeper (envOfC "searched" (C8.fnScope (topS 5)) s.heap.objs.size f cdv))) :
    DSs (mkG K ca) (cxOf (L2.CX P w) P w K mg base N_searched "searched" (C8.fnScope (topS 5)) f cdv A outer s H E) (fun c d _ H' => E c d H') (C8.fnBody (topS 5)) (k_searched f_g_roads_from) :=
  (dss_cons (ds_asg (de_tup (da_cons (de_alM (dm_disp (dps_cons (de_v 1) de_int dps_nil))) (da_cons (de_alM (dm_new false)) (da_cons (de_al (dn_lst da_nil)) da_nil)))) (dg_tup 3 (dgs_cons (dg_name 2) (dgs_cons (dg_name 3) (dgs_cons (dg_name 4) dgs_nil))))) (dss_cons (ds_for [5] (di_range1 (da_cons (de_gint V.c_MAX_PLACES) da_nil)) (dg_name 5) (dss_cons (ds_lock 2 (ds_setLc (F := (gN 11)) (t := (dBl (dOp oNin (dV 11) (dV 4)))) (f := (dTup (dCons (dIx (dV 2) (dV 11)) (dCons (dV 11) dNil)))) 6 false [("name", 11)] (di_keys (de_v 2)) (blkOk_by (by kernel_rfl)) (fun _ _ _ _ _ => (dg_name 11)) (fun _ _ _ _ _ => (dts_one (dt_cmp oNin_ok (de_v 11) (de_v 4)))) (fun _ _ _ _ _ => (de_tup (da_cons (de_it (de_v 2) (de_v 11)) (da_cons (de_v 11) da_nil)))))) (dss_one (ds_if (dt_cmp oNeC_ok (de_v 6) (de_fz (dn_lst da_nil))) (dss_cons (ds_asg (de_blt bMinD_ok (by decide +kernel) (by decide +kernel) (da_cons (de_v 6) da_nil)) (dg_tup 2 (dgs_cons (dg_name 7) (dgs_cons (dg_name 8) dgs_nil)))) (dss_cons (ds_expr (de_bm PySem.F.plainAttrs_list PySem.F.slot_list_append PySem.F.type_list_append ty_list mAppend_ok (de_v 4) (da_cons (de_v 8) da_nil))) (dss_one (ds_forG [9, 10] U_roads_from V.cl_Network.cls (fun f hf => nmF_ne "roads_from" (by decide +kernel) f hf) (hr.mono (by omega)) (de_v 0) (da_cons (de_v 8) da_nil) (dg_tup 2 (dgs_cons (dg_name 9) (dgs_cons (dg_name 10) dgs_nil))) (dss_one (ds_if (DW.dt (dw_or (dt_cmp oNin_ok (de_v 9) (de_v 2)) (dw_or1 (dt_cmp (fun _ => oLt_ok) (de_op (fun _ => oAdd_ok) (de_v 7) (de_v 10)) (de_it (de_v 2) (de_v 9)))))) (dss_one (ds_asg (de_tup (da_cons (de_op (fun _ => oAdd_ok) (de_v 7) (de_v 10)) (da_cons (de_v 8) da_nil))) (dg_tup 2 (dgs_cons (dg_sub (de_v 2) (de_v 9)) (dgs_cons (dg_sub (de_v 3) (de_v 9)) dgs_nil))))) dss_nil)))))) dss_nil)))) (dss_one (ds_ret (de_tup (da_cons (de_v 2) (da_cons (de_v 3) da_nil)))))))
abbrev N_way : List Str := ["network", "u", "v", "found", "before", "places"]
noncomputable def k_way (f_m_need_place : Fn) (f_searched : Fn) : Env' → Hh → Sr :=
  (sSeq (sExpr (dMeth 0 f_m_need_place (dV 0) (dCons (dV 1) dNil))) (sSeq (sExpr (dMeth 0 f_m_need_place (dV 0) (dCons (dV 2) dNil))) (sSeq (sAsg (dCall f_searched (dCons (dV 0) (dCons (dV 1) dNil))) (gT 2 (gsCons (gN 3) (gsCons (gN 4) gsNil)))) (sSeq (sIf (dBl (dOp oNin (dV 2) (dV 3))) (sRet (dC .non)) sNil) (sSeq (sSet 5 (dAl (dDisp (dCons (dV 2) dNil)))) (sSeq (whileS (dBl (dOp oNeC (dIx (dV 5) (dNeg (dC (.int 1)))) (dV 1))) (sExpr (dBm isL mAppend (dV 5) (dCons (dIx (dV 4) (dIx (dV 5) (dNeg (dC (.int 1))))) dNil))) [] (1000000000000000000000000000000000000000000000)) (sRet (dBlt bTup (dCons (dStepL (dV 5) (dNeg (dC (.int 1)))) dNil)))))))))
theorem d_way {f_m_need_place : Fn} {f_searched : Fn} (V : Vf K ca mg) (T_need_place : MeA (mkG K ca) P w mg base k 0 "need_place" f_m_need_place) (A_searched : FnA (mkG K ca) P w mg base k "searched" f_searched) (hr : Room (k + 1) (A.deeper (envOfC "way" (C8.fnScope (topS 6)) s.heap.objs.size f cdv))) :
    DSs (mkG K ca) (cxOf (L2.CX P w) P w K mg base N_way "way" (C8.fnScope (topS 6)) f cdv A outer s H E) (fun c d _ H' => E c d H') (C8.fnBody (topS 6)) (k_way f_m_need_place f_searched) :=
  (dss_cons (ds_expr (de_meth T_need_place V.cl_Network.cls (fun f hf => nmF_ne "need_place" (by decide +kernel) f hf) (hr.mono (by omega)) (de_v 0) (da_cons (de_v 1) da_nil))) (dss_cons (ds_expr (de_meth T_need_place V.cl_Network.cls (fun f hf => nmF_ne "need_place" (by decide +kernel) f hf) (hr.mono (by omega)) (de_v 0) (da_cons (de_v 2) da_nil))) (dss_cons (ds_asg (de_call A_searched (hr.mono (by omega)) (da_cons (de_v 0) (da_cons (de_v 1) da_nil))) (dg_tup 2 (dgs_cons (dg_name 3) (dgs_cons (dg_name 4) dgs_nil)))) (dss_cons (ds_if (dt_cmp oNin_ok (de_v 2) (de_v 3)) (dss_one (ds_ret de_non)) dss_nil) (dss_cons (ds_set 5 (de_al (dn_lst (da_cons (de_v 2) da_nil)))) (dss_cons (ds_while (1000000000000000000000000000000000000000000000) [] (dt_cmp oNeC_ok (de_it (de_v 5) (de_neg' de_int)) (de_v 1)) (dss_one (ds_expr (de_bm PySem.F.plainAttrs_list PySem.F.slot_list_append PySem.F.type_list_append ty_list mAppend_ok (de_v 5) (da_cons (de_it (de_v 4) (de_it (de_v 5) (de_neg' de_int))) da_nil))))) (dss_one (ds_ret (de_bty (fun _ => bTup_ok) (by decide +kernel) (by decide +kernel) (da_cons (de_stepL (de_v 5) (de_neg' de_int)) da_nil))))))))))
abbrev N__law_least_uses : List Str := ["_law_plain", "_law_u", "_law_found", "_law_turn", "_law_one", "_law_other", "_law_fuel", "_law_total"]
noncomputable def k__law_least_uses  : Env' → Hh → Sr :=
  (sSeq (sSet 2 (dAlM false (mDisp (pCons (dV 1) (dC (.int 0)) pNil)))) (sSeq (sFor (iRng1 (dCons (dBlt bLen (dCons (dIx (dV 0) (dC (.int 1))) dNil)) dNil)) (gN 3) (sFor (iVal (dIx (dV 0) (dC (.int 2)))) (gT 3 (gsCons (gN 4) (gsCons (gN 5) (gsCons (gN 6) gsNil)))) (sSeq (sSet 7 (dOp oAdd (dBm isD mGet (dV 2) (dCons (dV 4) (dCons (dC (.int 0)) dNil))) (dV 6))) (sIf (dAnd (dBl (dOp oIn (dV 4) (dV 2))) (dOr (dBl (dOp oNin (dV 5) (dV 2))) (dBl (dOp oLt (dV 7) (dIx (dV 2) (dV 5)))))) (sAsg (dV 7) (gSb (dV 2) (dV 5))) sNil)) [4, 5, 6]) [3]) (sRet (dV 2))))
theorem d__law_least_uses  (V : Vf K ca mg)  (hr : Room (k + 1) (A.deeper (envOfC "_law_least_uses" (C8.fnScope (topS 56)) s.heap.objs.size f cdv))) :
    DSs (mkG K ca) (cxOf (L2.CX P w) P w K mg base N__law_least_uses "_law_least_uses" (C8.fnScope (topS 56)) f cdv A outer s H E) (fun c d _ H' => E c d H') (C8.fnBody (topS 56)) (k__law_least_uses ) :=
  (dss_cons (ds_set 2 (de_alM (dm_disp (dps_cons (de_v 1) de_int dps_nil)))) (dss_cons (ds_for [3] (di_range1 (da_cons (de_blt (fun _ => bLen_ok) (by decide +kernel) (by decide +kernel) (da_cons (de_it (de_v 0) de_int) da_nil)) da_nil)) (dg_name 3) (dss_one (ds_for [4, 5, 6] (di_val (de_it (de_v 0) de_int)) (dg_tup 3 (dgs_cons (dg_name 4) (dgs_cons (dg_name 5) (dgs_cons (dg_name 6) dgs_nil)))) (dss_cons (ds_set 7 (de_op (fun _ => oAdd_ok) (de_bmC PySem.F.plainAttrs_dict PySem.F.slot_dict_get PySem.F.type_dict_get ty_dict mGet_ok (de_v 2) (da_cons (de_v 4) (da_cons de_int da_nil))) (de_v 6))) (dss_one (ds_if (DW.dt (dw_and (dt_cmp oIn_ok (de_v 4) (de_v 2)) (dw_and1 (DW.dt (dw_or (dt_cmp oNin_ok (de_v 5) (de_v 2)) (dw_or1 (dt_cmp (fun _ => oLt_ok) (de_v 7) (de_it (de_v 2) (de_v 5))))))))) (dss_one (ds_asg (de_v 7) (dg_sub (de_v 2) (de_v 5)))) dss_nil)))))) (dss_one (ds_ret (de_v 2)))))
abbrev N__law_right : List Str := ["_law_plain", "_law_u", "_law_v", "_law_told", "_law_least", "_law_known", "_law_total", "_law_k", "_law_row", "_law_one"]
noncomputable def k__law_right (f__law_least_uses : Fn) : Env' → Hh → Sr :=
  (sSeq (sSet 4 (dBm isD mGet (dCall f__law_least_uses (dCons (dV 0) (dCons (dV 1) dNil))) (dCons (dV 2) dNil))) (sSeq (sIf (dOr (dBl (dOp oIsN (dV 4) (dC .non))) (dBl (dOp oIsN (dV 3) (dC .non)))) (sRet (dAndV (dOp oIsN (dV 3) (dC .non)) (dOp oIsN (dV 4) (dC .non)))) sNil) (sSeq (sIf (dOr (dNot (dBl (dBlt (bIsi nCls subC) (dCons (dV 3) (dCons (dC (.ty "tuple")) dNil))))) (dOr (dBl (dOp oEqC (dBlt bLen (dCons (dV 3) dNil)) (dC (.int 0)))) (dOr (dBl (dOp oNeC (dIx (dV 3) (dC (.int 0))) (dV 1))) (dBl (dOp oNeC (dIx (dV 3) (dNeg (dC (.int 1)))) (dV 2)))))) (sRet (dC (.bl false))) sNil) (sSeq (sPar 5 6 (dCons (dBlt bDictTZ (dCons (dFz (dComp (iVal (dIx (dV 0) (dC (.int 2)))) (gN 8) tYs (dTup (dCons (dTup (dCons (dIx (dV 8) (dC (.int 0))) (dCons (dIx (dV 8) (dC (.int 1))) dNil))) (dCons (dIx (dV 8) (dC (.int 2))) dNil))) [8])) dNil)) (dCons (dC (.int 0)) dNil))) (sSeq (sFor (iRng1 (dCons (dOp oSub (dBlt bLen (dCons (dV 3) dNil)) (dC (.int 1))) dNil)) (gN 7) (sSeq (sIf (dBl (dOp oNin (dTup (dCons (dIx (dV 3) (dV 7)) (dCons (dIx (dV 3) (dOp oAdd (dV 7) (dC (.int 1)))) dNil))) (dV 5))) (sRet (dC (.bl false))) sNil) (sSet 6 (dOp oAdd (dV 6) (dIx (dV 5) (dTup (dCons (dIx (dV 3) (dV 7)) (dCons (dIx (dV 3) (dOp oAdd (dV 7) (dC (.int 1)))) dNil))))))) [7]) (sRet (dAndV (dOp oEqC (dV 6) (dV 4)) (dOp oEqC (dFz (dComp (iVal (dV 3)) (gN 9) (dNot (dBl (dBlt (bIsi nCls subC) (dCons (dV 9) (dCons (dC (.ty "str")) dNil))))) (dV 9) [9])) (dFz (dDisp dNil))))))))))
theorem d__law_right {f__law_least_uses : Fn} (V : Vf K ca mg) (A__law_least_uses : FnA (mkG K ca) P w mg base k "_law_least_uses" f__law_least_uses) (hr : Room (k + 1) (A.deeper (envOfC "_law_right" (C8.fnScope (topS 58)) s.heap.objs.size f cdv))) :
    DSs (mkG K ca) (cxOf (L2.CX P w) P w K mg base N__law_right "_law_right" (C8.fnScope (topS 58)) f cdv A outer s H E) (fun c d _ H' => E c d H') (C8.fnBody (topS 58)) (k__law_right f__law_least_uses) :=
  (dss_cons (ds_set 4 (de_bmC PySem.F.plainAttrs_dict PySem.F.slot_dict_get PySem.F.type_dict_get ty_dict mGet_ok (de_call A__law_least_uses (hr.mono (by omega)) (da_cons (de_v 0) (da_cons (de_v 1) da_nil))) (da_cons (de_v 2) da_nil))) (dss_cons (ds_if (DW.dt (dw_or (dt_cmp (fun _ => oIsN_ok) (de_v 4) de_non) (dw_or1 (dt_cmp (fun _ => oIsN_ok) (de_v 3) de_non)))) (dss_one (ds_ret (de_and (de_cmp (fun _ => oIsN_ok) (de_v 3) de_non) (de_and1 (de_cmp (fun _ => oIsN_ok) (de_v 4) de_non))))) dss_nil) (dss_cons (ds_if (DW.dt (dw_or (dt_not (dt_val (de_blt (bIsi_ok V.isf) (by decide +kernel) (by decide +kernel) (da_cons (de_v 3) (da_cons (de_ty (by decide +kernel) (by decide +kernel)) da_nil))))) (dw_or (dt_cmp oEqC_ok (de_blt (fun _ => bLen_ok) (by decide +kernel) (by decide +kernel) (da_cons (de_v 3) da_nil)) de_int) (dw_or (dt_cmp oNeC_ok (de_it (de_v 3) de_int) (de_v 1)) (dw_or1 (dt_cmp oNeC_ok (de_it (de_v 3) (de_neg' de_int)) (de_v 2))))))) (dss_one (ds_ret de_bl)) dss_nil) (dss_cons (ds_par 5 6 (da_cons (de_bty bDictTZ_ok (by decide +kernel) (by decide +kernel) (da_cons (de_fz (dn_lc (F := (gN 8)) (t := tYs) (f := (dTup (dCons (dTup (dCons (dIx (dV 8) (dC (.int 0))) (dCons (dIx (dV 8) (dC (.int 1))) dNil))) (dCons (dIx (dV 8) (dC (.int 2))) dNil)))) [("_law_row", 8)] (di_val (de_it (de_v 0) de_int)) (blkOk_by (by kernel_rfl)) (fun _ _ _ _ _ => (dg_name 8)) (fun _ _ _ _ _ => dts_nil) (fun _ _ _ _ _ => (de_tup (da_cons (de_tup (da_cons (de_it (de_v 8) de_int) (da_cons (de_it (de_v 8) de_int) da_nil))) (da_cons (de_it (de_v 8) de_int) da_nil)))))) da_nil)) (da_cons de_int da_nil))) (dss_cons (ds_for [7] (di_range1 (da_cons (de_op (fun _ => oSub_ok) (de_blt (fun _ => bLen_ok) (by decide +kernel) (by decide +kernel) (da_cons (de_v 3) da_nil)) de_int) da_nil)) (dg_name 7) (dss_cons (ds_if (dt_cmp oNin_ok (de_tup (da_cons (de_it (de_v 3) (de_v 7)) (da_cons (de_it (de_v 3) (de_op (fun _ => oAdd_ok) (de_v 7) de_int)) da_nil))) (de_v 5)) (dss_one (ds_ret de_bl)) dss_nil) (dss_one (ds_set 6 (de_op (fun _ => oAdd_ok) (de_v 6) (de_it (de_v 5) (de_tup (da_cons (de_it (de_v 3) (de_v 7)) (da_cons (de_it (de_v 3) (de_op (fun _ => oAdd_ok) (de_v 7) de_int)) da_nil))))))))) (dss_one (ds_ret (de_and (de_cmp oEqC_ok (de_v 6) (de_v 4)) (de_and1 (de_cmp oEqC_ok (de_fz (dn_lc (F := (gN 9)) (t := (dNot (dBl (dBlt (bIsi nCls subC) (dCons (dV 9) (dCons (dC (.ty "str")) dNil)))))) (f := (dV 9)) [("_law_one", 9)] (di_val (de_v 3)) (blkOk_by (by kernel_rfl)) (fun _ _ _ _ _ => (dg_name 9)) (fun _ _ _ _ _ => (dts_one (dt_not (dt_val (de_blt (bIsi_ok V.isf) (by decide +kernel) (by decide +kernel) (da_cons (de_v 9) (da_cons (de_ty (by decide +kernel) (by decide +kernel)) da_nil))))))) (fun _ _ _ _ _ => (de_v 9)))) (de_fz (dn_lst da_nil))))))))))))
abbrev N_law : List Str := ["_law_script", "_law_pen_here", "_law_turn", "_law_plain", "_law_network", "_law_u", "_law_v", "_law_told"]
noncomputable def k_law (f__law_pen : Fn) (f__law_small : Fn) (f__law_great : Fn) (f__law_made : Fn) (f__law_names_of : Fn) (f_way : Fn) (f__law_right : Fn) : Env' → Hh → Sr :=
  (sSeq (sSet 1 (dCall f__law_pen (dCons (dV 0) dNil))) (sSeq (sFor (iRng1 (dCons (dC (.int 5)) dNil)) (gN 2) (sSeq (sSet 3 (dIf (dBl (dOp oGt (dV 2) (dC (.int 0)))) (dCall f__law_small (dCons (dV 1) (dCons (dC (.int 6)) (dCons (dC (.int 6)) dNil)))) (dCall f__law_great (dCons (dV 1) (dCons (dC (.int 6)) (dCons (dC (.int 10)) dNil)))))) (sSeq (sSet 4 (dCall f__law_made (dCons (dV 3) dNil))) (sFor (iVal (dCall f__law_names_of (dCons (dV 3) dNil))) (gN 5) (sFor (iVal (dCall f__law_names_of (dCons (dV 3) dNil))) (gN 6) (sSeq (sSet 7 (dCall f_way (dCons (dV 4) (dCons (dV 5) (dCons (dV 6) dNil))))) (sIf (dOr (dNot (dBl (dCall f__law_right (dCons (dV 3) (dCons (dV 5) (dCons (dV 6) (dCons (dV 7) dNil))))))) (dBl (dOp oNeC (dCall f_way (dCons (dV 4) (dCons (dV 5) (dCons (dV 6) dNil)))) (dV 7)))) (sRet (dC (.bl false))) sNil)) [6]) [5]))) [2]) (sRet (dC (.bl true)))))
theorem d_law {f__law_pen : Fn} {f__law_small : Fn} {f__law_great : Fn} {f__law_made : Fn} {f__law_names_of : Fn} {f_way : Fn} {f__law_right : Fn} (V : Vf K ca mg) (A__law_pen : FnA (mkG K ca) P w mg base k "_law_pen" f__law_pen) (A__law_small : FnA (mkG K ca) P w mg base k "_law_small" f__law_small) (A__law_great : FnA (mkG K ca) P w mg base k "_law_great" f__law_great) (A__law_made : FnA (mkG K ca) P w mg base k "_law_made" f__law_made) (A__law_names_of : FnA (mkG K ca) P w mg base k "_law_names_of" f__law_names_of) (A_way : FnA (mkG K ca) P w mg base k "way" f_way) (A__law_right : FnA (mkG K ca) P w mg base k "_law_right" f__law_right) (hr : Room (k + 1) (A.deeper (envOfC "law" (C8.fnScope (topS 59)) s.heap.objs.size f cdv))) :
    DSs (mkG K ca) (cxOf (L2.CX P w) P w K mg base N_law "law" (C8.fnScope (topS 59)) f cdv A outer s H E) (fun c d _ H' => E c d H') (C8.fnBody (topS 59)) (k_law f__law_pen f__law_small f__law_great f__law_made f__law_names_of f_way f__law_right) :=
  (dss_cons (ds_set 1 (de_call A__law_pen (hr.mono (by omega)) (da_cons (de_v 0) da_nil))) (dss_cons (ds_for [2] (di_range1 (da_cons de_int da_nil)) (dg_name 2) (dss_cons (ds_set 3 (de_if (dt_cmp (fun _ => oGt_ok) (de_v 2) de_int) (de_call A__law_small (hr.mono (by omega)) (da_cons (de_v 1) (da_cons de_int (da_cons de_int da_nil)))) (de_call A__law_great (hr.mono (by omega)) (da_cons (de_v 1) (da_cons de_int (da_cons de_int da_nil)))))) (dss_cons (ds_set 4 (de_call A__law_made (hr.mono (by omega)) (da_cons (de_v 3) da_nil))) (dss_one (ds_for [5] (di_val (de_call A__law_names_of (hr.mono (by omega)) (da_cons (de_v 3) da_nil))) (dg_name 5) (dss_one (ds_for [6] (di_val (de_call A__law_names_of (hr.mono (by omega)) (da_cons (de_v 3) da_nil))) (dg_name 6) (dss_cons (ds_set 7 (de_call A_way (hr.mono (by omega)) (da_cons (de_v 4) (da_cons (de_v 5) (da_cons (de_v 6) da_nil))))) (dss_one (ds_if (DW.dt (dw_or (dt_not (dt_val (de_call A__law_right (hr.mono (by omega)) (da_cons (de_v 3) (da_cons (de_v 5) (da_cons (de_v 6) (da_cons (de_v 7) da_nil))))))) (dw_or1 (dt_cmp oNeC_ok (de_call A_way (hr.mono (by omega)) (da_cons (de_v 4) (da_cons (de_v 5) (da_cons (de_v 6) da_nil)))) (de_v 7))))) (dss_one (ds_ret de_bl)) dss_nil)))))))))) (dss_one (ds_ret de_bl))))
end
end DL

set_option maxHeartbeats 4000000
namespace DL
open PySem PySem.Spec PyProof.Rows L2
/-! the plain functions, tied (asm.py) -/
noncomputable def s__law_pen : Fn := lenI 1 (gcF (fun d => match d with | .ref i => [i] | _ => []) (runB 0 (k__law_pen )))
noncomputable def s__law_draw_n : Nat → Fn
  | 0 => lenI 2 fun _ _ => .no
  | n + 1 => lenI 2 (gcF (fun _ => []) (runB 4 (k__law_draw (s__law_draw_n n))))
noncomputable def s__law_draw : Fn := s__law_draw_n 6
noncomputable def s__law_pick : Fn := lenI 2 (gcF (fun _ => []) (runB 0 (k__law_pick s__law_draw)))
noncomputable def s__law_some_names : Fn := lenI 2 (gcF (fun _ => []) (runB 10 (k__law_some_names s__law_draw s__law_pick)))
noncomputable def s__law_drawn_place : Fn := lenI 3 (gcF (fun _ => []) (runB 3 (k__law_drawn_place s__law_draw s__law_pick)))
noncomputable def s__law_shuffled : Fn := lenI 2 (gcF (fun _ => []) (runB 2 (k__law_shuffled s__law_draw)))
noncomputable def s__law_drawn_roads : Fn := lenI 4 (gcF (fun _ => []) (runB 9 (k__law_drawn_roads s__law_draw s__law_shuffled s__law_pick)))
noncomputable def s__law_small : Fn := lenI 3 (gcF (fun _ => []) (runB 6 (k__law_small s__law_draw s__law_some_names s__law_pick s__law_drawn_place s__law_drawn_roads)))
noncomputable def s__law_great : Fn := lenI 3 (gcF (fun _ => []) (runB 6 (k__law_great s__law_pick s__law_draw s__law_some_names s__law_drawn_place s__law_drawn_roads)))
noncomputable def s_is_integer : Fn := lenI 1 (gcF (fun _ => []) (runB 0 (k_is_integer )))
noncomputable def s_is_between : Fn := lenI 3 (gcF (fun _ => []) (runB 0 (k_is_between s_is_integer)))
noncomputable def s_is_size : Fn := lenI 2 (gcF (fun _ => []) (runB 0 (k_is_size s_is_between)))
noncomputable def s_is_list : Fn := lenI 1 (gcF (fun _ => []) (runB 0 (k_is_list )))
noncomputable def s_is_name : Fn := lenI 1 (gcF (fun _ => []) (runB 1 (k_is_name )))
noncomputable def s_is_tuple_of : Fn := lenI 2 (gcF (fun _ => []) (runB 0 (k_is_tuple_of )))
noncomputable def s_is_price : Fn := lenI 1 (gcF (fun _ => []) (runB 0 (k_is_price s_is_size)))
noncomputable def s_are_prices : Fn := lenI 1 (gcF (fun _ => []) (runB 0 (k_are_prices s_is_price s_is_tuple_of)))
noncomputable def s_is_place : Fn := lenI 1 (gcF (fun _ => []) (runB 0 (k_is_place s_is_name s_is_tuple_of s_is_size s_are_prices)))
noncomputable def s_checked_places : Fn := lenI 1 (gcF (fun _ => []) (runB 3 (k_checked_places s_is_list s_is_place)))
noncomputable def s_is_road : Fn := lenI 2 (gcF (fun _ => []) (runB 3 (k_is_road s_is_size s_is_tuple_of s_is_name)))
noncomputable def s_checked_roads : Fn := lenI 2 (gcF (fun _ => []) (runB 3 (k_checked_roads s_is_list s_is_road)))
noncomputable def s_new_Network : Fn := lenI 4 (gcF (fun _ => []) (runB 1 (k_new_Network s_is_size s_checked_places s_checked_roads)))
noncomputable def s__law_made : Fn := lenI 1 (gcF (fun d => match d with | .ref i => [i] | _ => []) (runB 0 (k__law_made s_new_Network)))
noncomputable def s__law_names_of : Fn := lenI 1 (gcF (fun _ => []) (runB 1 (k__law_names_of )))
noncomputable def s_m_need_place : Fn := lenI 2 (gcF (fun _ => []) (runB 0 (k_m_need_place s_is_name)))
noncomputable def s_g_roads_from : FnL := lenG 2 (k_g_roads_from s_m_need_place)
noncomputable def s_searched : Fn := lenI 2 (gcF (fun _ => []) (runB 10 (k_searched s_g_roads_from)))
noncomputable def s_way : Fn := lenI 3 (gcF (fun _ => []) (runB 3 (k_way s_m_need_place s_searched)))
noncomputable def s__law_least_uses : Fn := lenI 2 (gcF (fun _ => []) (runB 6 (k__law_least_uses )))
noncomputable def s__law_right : Fn := lenI 4 (gcF (fun _ => []) (runB 6 (k__law_right s__law_least_uses)))
noncomputable def s_law : Fn := runB 7 (k_law s__law_pen s__law_small s__law_great s__law_made s__law_names_of s_way s__law_right)
end DL

set_option maxHeartbeats 4000000
namespace DL
open PySem PySem.Spec PyProof.Rows L2
/-! promises (asm.py) -/
abbrev caN (K : PySem.W.Frag) : Nat → Addr := fun _ => He.ga K "Network"
theorem fnNo {P : Program} {w : World} {g : G} {mg : Str → Option Value} {base : Heap} {k : Nat} {f : Addr} {fd : FuncData} {ps : List Str} : FnOkG P w g.K mg base (L2.CX P w) k f fd ps (spD g ps.length fun _ _ => .no) := ⟨fun _ _ _ _ h => h.1, fun _ _ _ _ _ _ _ _ _ _ _ _ _ _ h => by obtain ⟨_, _, _, _, _, _, A⟩ := h; exact False.elim A⟩
section
variable {K : PySem.W.Frag} {P : Program} {w : World} {mg : Str → Option Value} {base hp : Heap} {k : Nat}
theorem fact (c : SaysP exL fnL K) (i : Nat) {f : He.Fa} (h : faL[i]? = some f := by rfl) : f.ok K = true := by
  have := c.exB
  unfold exL at this
  simp only [Bool.and_eq_true, List.all_eq_true] at this
  exact this.1.1.1.1 _ (List.mem_of_getElem? h)
theorem x_is (c : SaysP exL fnL K) : isB K (He.ga K "Network") = true := by
  have := c.exB
  unfold exL at this
  simp only [Bool.and_eq_true] at this
  exact this.1.1.1.2
theorem x_cv_MAX_PLACES (c : SaysP exL fnL K) : cvB K (He.ga K "Network") "MAX_PLACES" 10 = true := by
  have := c.exB
  unfold exL at this
  simp only [Bool.and_eq_true] at this
  exact this.1.1.2
theorem x_cv_MAX_ROADS (c : SaysP exL fnL K) : cvB K (He.ga K "Network") "MAX_ROADS" 40 = true := by
  have := c.exB
  unfold exL at this
  simp only [Bool.and_eq_true] at this
  exact this.1.2
theorem x_cv_MAX_SIZE (c : SaysP exL fnL K) : cvB K (He.ga K "Network") "MAX_SIZE" 1000000000000000000000000000000 = true := by
  have := c.exB
  unfold exL at this
  simp only [Bool.and_eq_true] at this
  exact this.2
theorem vf (X : K.In hp) (G : hp.Ns mainGlobals mg) (c : SaysP exL fnL K) : Vf K (caN K) mg where
  bl := fun x h => He.free_ok X G (by
    have := c.exB
    unfold exL at this
    simp only [Bool.and_eq_true, List.all_eq_true] at this
    exact this.1.1.1.1 _ (List.mem_append_right _ (List.mem_map_of_mem (by simpa using h))))
  isf := isB_ok (g := mkG K (caN K)) (x_is c)
  c_LETTERS := He.str_ok X G (fact c 28 (f := .str "LETTERS" "abcdefghijklmnopqrstuvwxyz"))
  c_MAX_LETTERS := He.int_ok X G (fact c 29 (f := .int "MAX_LETTERS" 8))
  c_MAX_PLACES := He.int_ok X G (fact c 30 (f := .int "MAX_PLACES" 10))
  c_MAX_SIZE := He.int_ok X G (fact c 31 (f := .int "MAX_SIZE" 1000000000000000000000000000000))
  k_Network := He.glo_ok X G (fact c 32 (f := .glo "Network"))
  cl_Network := ⟨He.cls_ok (fact c 33 (f := .cls "Network")), fun f hf => match f, hf with
    | 0, _ => He.noat_ok (fact c 35 (f := .noat "Network" "own_tank"))
    | 1, _ => He.noat_ok (fact c 36 (f := .noat "Network" "own_places"))
    | 2, _ => He.noat_ok (fact c 37 (f := .noat "Network" "own_names"))
    | 3, _ => He.noat_ok (fact c 38 (f := .noat "Network" "by_name"))
    | 4, _ => He.noat_ok (fact c 39 (f := .noat "Network" "own_roads"))
    | n + 5, h => absurd h (by show ¬ (n + 5 < 5); omega)⟩
  cv_MAX_PLACES := cvB_ok (x_cv_MAX_PLACES c)
  cv_MAX_ROADS := cvB_ok (x_cv_MAX_ROADS c)
  cv_MAX_SIZE := cvB_ok (x_cv_MAX_SIZE c)
theorem a__law_pen  (c : SaysP exL fnL K) (V : Vf K (caN K) mg) (hm : mg "_law_pen" = some (.ref (He.ga K "_law_pen")))  : FnA (mkG K (caN K)) P w mg base (k + 2) "_law_pen" (lenI 1 (gcF (fun d => match d with | .ref i => [i] | _ => []) (runB 0 (k__law_pen )))) := by
  obtain ⟨fd, F⟩ := c.def_ 0 (d := df__law_pen)
  exact FnA.of (ps := ["_law_script"]) (FnOkG.gcL (fnD (m := 0) F (C8.fnScope_by (N := N__law_pen) (P := ["_law_script"]) (by decide +kernel)) V.bl rfl fun cdv A outer s H E hr => d__law_pen V  hr) (gcF_says _ (fun d => match d with | .ref i => [i] | _ => []) _)) hm F.kp (FunD.bindsN F fun _ _ _ _ _ _ us hl => match us, hl with | [_], _ => rfl)
theorem t__law_pen (X : K.In hp) (G : hp.Ns mainGlobals mg) (c : SaysP exL fnL K) : FnA (mkG K (caN K)) P w mg base 2 "_law_pen" s__law_pen := a__law_pen (k := 0) c (vf X G c) (He.glo_ok X G (fact c 0 (f := .glo "_law_pen"))) 
theorem a__law_draw {f__law_draw : Fn} (c : SaysP exL fnL K) (V : Vf K (caN K) mg) (hm : mg "_law_draw" = some (.ref (He.ga K "_law_draw"))) (A__law_draw : FnA (mkG K (caN K)) P w mg base k "_law_draw" f__law_draw) : FnA (mkG K (caN K)) P w mg base (k + 2) "_law_draw" (lenI 2 (gcF (fun _ => []) (runB 4 (k__law_draw f__law_draw)))) := by
  obtain ⟨fd, F⟩ := c.def_ 1 (d := df__law_draw)
  exact FnA.of (ps := ["_law_pen_here", "_law_many"]) (FnOkG.gcL (fnD (m := 4) F (C8.fnScope_by (N := N__law_draw) (P := ["_law_pen_here", "_law_many"]) (by decide +kernel)) V.bl rfl fun cdv A outer s H E hr => d__law_draw V A__law_draw hr) (gcF_says _ (fun _ => []) _)) hm F.kp (FunD.bindsN F fun _ _ _ _ _ _ us hl => match us, hl with | [_, _], _ => rfl)
theorem t__law_draw_n (X : K.In hp) (G : hp.Ns mainGlobals mg) (c : SaysP exL fnL K) : ∀ n, FnA (mkG K (caN K)) P w mg base (0 + 2 * n) "_law_draw" (s__law_draw_n n)
  | 0 => by
    obtain ⟨fd, F⟩ := c.def_ 1 (d := df__law_draw)
    exact FnA.of (ps := ["_law_pen_here", "_law_many"]) fnNo (He.glo_ok X G (fact c 1 (f := .glo "_law_draw"))) F.kp (FunD.bindsN F fun _ _ _ _ _ _ us hl => match us, hl with | [_, _], _ => rfl)
  | n + 1 => by
    have ih := t__law_draw_n X G c n
    exact (a__law_draw (k := 0 + 2 * n) c (vf X G c) (He.glo_ok X G (fact c 1 (f := .glo "_law_draw"))) ih).mono (by omega)
theorem t__law_draw (X : K.In hp) (G : hp.Ns mainGlobals mg) (c : SaysP exL fnL K) : FnA (mkG K (caN K)) P w mg base 12 "_law_draw" s__law_draw := t__law_draw_n X G c 6
theorem a__law_pick {f__law_draw : Fn} (c : SaysP exL fnL K) (V : Vf K (caN K) mg) (hm : mg "_law_pick" = some (.ref (He.ga K "_law_pick"))) (A__law_draw : FnA (mkG K (caN K)) P w mg base k "_law_draw" f__law_draw) : FnA (mkG K (caN K)) P w mg base (k + 2) "_law_pick" (lenI 2 (gcF (fun _ => []) (runB 0 (k__law_pick f__law_draw)))) := by
  obtain ⟨fd, F⟩ := c.def_ 2 (d := df__law_pick)
  exact FnA.of (ps := ["_law_pen_here", "_law_items"]) (FnOkG.gcL (fnD (m := 0) F (C8.fnScope_by (N := N__law_pick) (P := ["_law_pen_here", "_law_items"]) (by decide +kernel)) V.bl rfl fun cdv A outer s H E hr => d__law_pick V A__law_draw hr) (gcF_says _ (fun _ => []) _)) hm F.kp (FunD.bindsN F fun _ _ _ _ _ _ us hl => match us, hl with | [_, _], _ => rfl)
theorem t__law_pick (X : K.In hp) (G : hp.Ns mainGlobals mg) (c : SaysP exL fnL K) : FnA (mkG K (caN K)) P w mg base 14 "_law_pick" s__law_pick := a__law_pick (k := 12) c (vf X G c) (He.glo_ok X G (fact c 2 (f := .glo "_law_pick"))) ((t__law_draw X G c).mono (by decide))
theorem a__law_some_names {f__law_draw : Fn} {f__law_pick : Fn} (c : SaysP exL fnL K) (V : Vf K (caN K) mg) (hm : mg "_law_some_names" = some (.ref (He.ga K "_law_some_names"))) (A__law_draw : FnA (mkG K (caN K)) P w mg base k "_law_draw" f__law_draw) (A__law_pick : FnA (mkG K (caN K)) P w mg base k "_law_pick" f__law_pick) : FnA (mkG K (caN K)) P w mg base (k + 2) "_law_some_names" (lenI 2 (gcF (fun _ => []) (runB 10 (k__law_some_names f__law_draw f__law_pick)))) := by
  obtain ⟨fd, F⟩ := c.def_ 3 (d := df__law_some_names)
  exact FnA.of (ps := ["_law_pen_here", "_law_many"]) (FnOkG.gcL (fnD (m := 10) F (C8.fnScope_by (N := N__law_some_names) (P := ["_law_pen_here", "_law_many"]) (by decide +kernel)) V.bl rfl fun cdv A outer s H E hr => d__law_some_names V A__law_draw A__law_pick hr) (gcF_says _ (fun _ => []) _)) hm F.kp (FunD.bindsN F fun _ _ _ _ _ _ us hl => match us, hl with | [_, _], _ => rfl)
theorem t__law_some_names (X : K.In hp) (G : hp.Ns mainGlobals mg) (c : SaysP exL fnL K) : FnA (mkG K (caN K)) P w mg base 16 "_law_some_names" s__law_some_names := a__law_some_names (k := 14) c (vf X G c) (He.glo_ok X G (fact c 3 (f := .glo "_law_some_names"))) ((t__law_draw X G c).mono (by decide)) ((t__law_pick X G c).mono (by decide))
theorem a__law_drawn_place {f__law_draw : Fn} {f__law_pick : Fn} (c : SaysP exL fnL K) (V : Vf K (caN K) mg) (hm : mg "_law_drawn_place" = some (.ref (He.ga K "_law_drawn_place"))) (A__law_draw : FnA (mkG K (caN K)) P w mg base k "_law_draw" f__law_draw) (A__law_pick : FnA (mkG K (caN K)) P w mg base k "_law_pick" f__law_pick) : FnA (mkG K (caN K)) P w mg base (k + 2) "_law_drawn_place" (lenI 3 (gcF (fun _ => []) (runB 3 (k__law_drawn_place f__law_draw f__law_pick)))) := by
  obtain ⟨fd, F⟩ := c.def_ 4 (d := df__law_drawn_place)
  exact FnA.of (ps := ["_law_pen_here", "_law_name", "_law_high"]) (FnOkG.gcL (fnD (m := 3) F (C8.fnScope_by (N := N__law_drawn_place) (P := ["_law_pen_here", "_law_name", "_law_high"]) (by decide +kernel)) V.bl rfl fun cdv A outer s H E hr => d__law_drawn_place V A__law_draw A__law_pick hr) (gcF_says _ (fun _ => []) _)) hm F.kp (FunD.bindsN F fun _ _ _ _ _ _ us hl => match us, hl with | [_, _, _], _ => rfl)
theorem t__law_drawn_place (X : K.In hp) (G : hp.Ns mainGlobals mg) (c : SaysP exL fnL K) : FnA (mkG K (caN K)) P w mg base 16 "_law_drawn_place" s__law_drawn_place := a__law_drawn_place (k := 14) c (vf X G c) (He.glo_ok X G (fact c 4 (f := .glo "_law_drawn_place"))) ((t__law_draw X G c).mono (by decide)) ((t__law_pick X G c).mono (by decide))
theorem a__law_shuffled {f__law_draw : Fn} (c : SaysP exL fnL K) (V : Vf K (caN K) mg) (hm : mg "_law_shuffled" = some (.ref (He.ga K "_law_shuffled"))) (A__law_draw : FnA (mkG K (caN K)) P w mg base k "_law_draw" f__law_draw) : FnA (mkG K (caN K)) P w mg base (k + 2) "_law_shuffled" (lenI 2 (gcF (fun _ => []) (runB 2 (k__law_shuffled f__law_draw)))) := by
  obtain ⟨fd, F⟩ := c.def_ 5 (d := df__law_shuffled)
  exact FnA.of (ps := ["_law_pen_here", "_law_items"]) (FnOkG.gcL (fnD (m := 2) F (C8.fnScope_by (N := N__law_shuffled) (P := ["_law_pen_here", "_law_items"]) (by decide +kernel)) V.bl rfl fun cdv A outer s H E hr => d__law_shuffled V A__law_draw hr) (gcF_says _ (fun _ => []) _)) hm F.kp (FunD.bindsN F fun _ _ _ _ _ _ us hl => match us, hl with | [_, _], _ => rfl)
theorem t__law_shuffled (X : K.In hp) (G : hp.Ns mainGlobals mg) (c : SaysP exL fnL K) : FnA (mkG K (caN K)) P w mg base 14 "_law_shuffled" s__law_shuffled := a__law_shuffled (k := 12) c (vf X G c) (He.glo_ok X G (fact c 5 (f := .glo "_law_shuffled"))) ((t__law_draw X G c).mono (by decide))
theorem a__law_drawn_roads {f__law_draw : Fn} {f__law_shuffled : Fn} {f__law_pick : Fn} (c : SaysP exL fnL K) (V : Vf K (caN K) mg) (hm : mg "_law_drawn_roads" = some (.ref (He.ga K "_law_drawn_roads"))) (A__law_draw : FnA (mkG K (caN K)) P w mg base k "_law_draw" f__law_draw) (A__law_shuffled : FnA (mkG K (caN K)) P w mg base k "_law_shuffled" f__law_shuffled) (A__law_pick : FnA (mkG K (caN K)) P w mg base k "_law_pick" f__law_pick) : FnA (mkG K (caN K)) P w mg base (k + 2) "_law_drawn_roads" (lenI 4 (gcF (fun _ => []) (runB 9 (k__law_drawn_roads f__law_draw f__law_shuffled f__law_pick)))) := by
  obtain ⟨fd, F⟩ := c.def_ 6 (d := df__law_drawn_roads)
  exact FnA.of (ps := ["_law_pen_here", "_law_names", "_law_many", "_law_fuels"]) (FnOkG.gcL (fnD (m := 9) F (C8.fnScope_by (N := N__law_drawn_roads) (P := ["_law_pen_here", "_law_names", "_law_many", "_law_fuels"]) (by decide +kernel)) V.bl rfl fun cdv A outer s H E hr => d__law_drawn_roads V A__law_draw A__law_shuffled A__law_pick hr) (gcF_says _ (fun _ => []) _)) hm F.kp (FunD.bindsN F fun _ _ _ _ _ _ us hl => match us, hl with | [_, _, _, _], _ => rfl)
theorem t__law_drawn_roads (X : K.In hp) (G : hp.Ns mainGlobals mg) (c : SaysP exL fnL K) : FnA (mkG K (caN K)) P w mg base 16 "_law_drawn_roads" s__law_drawn_roads := a__law_drawn_roads (k := 14) c (vf X G c) (He.glo_ok X G (fact c 6 (f := .glo "_law_drawn_roads"))) ((t__law_draw X G c).mono (by decide)) ((t__law_shuffled X G c).mono (by decide)) ((t__law_pick X G c).mono (by decide))
theorem a__law_small {f__law_draw : Fn} {f__law_some_names : Fn} {f__law_pick : Fn} {f__law_drawn_place : Fn} {f__law_drawn_roads : Fn} (c : SaysP exL fnL K) (V : Vf K (caN K) mg) (hm : mg "_law_small" = some (.ref (He.ga K "_law_small"))) (A__law_draw : FnA (mkG K (caN K)) P w mg base k "_law_draw" f__law_draw) (A__law_some_names : FnA (mkG K (caN K)) P w mg base k "_law_some_names" f__law_some_names) (A__law_pick : FnA (mkG K (caN K)) P w mg base k "_law_pick" f__law_pick) (A__law_drawn_place : FnA (mkG K (caN K)) P w mg base k "_law_drawn_place" f__law_drawn_place) (A__law_drawn_roads : FnA (mkG K (caN K)) P w mg base k "_law_drawn_roads" f__law_drawn_roads) : FnA (mkG K (caN K)) P w mg base (k + 2) "_law_small" (lenI 3 (gcF (fun _ => []) (runB 6 (k__law_small f__law_draw f__law_some_names f__law_pick f__law_drawn_place f__law_drawn_roads)))) := by
  obtain ⟨fd, F⟩ := c.def_ 7 (d := df__law_small)
  exact FnA.of (ps := ["_law_pen_here", "_law_most", "_law_tank"]) (FnOkG.gcL (fnD (m := 6) F (C8.fnScope_by (N := N__law_small) (P := ["_law_pen_here", "_law_most", "_law_tank"]) (by decide +kernel)) V.bl rfl fun cdv A outer s H E hr => d__law_small V A__law_draw A__law_some_names A__law_pick A__law_drawn_place A__law_drawn_roads hr) (gcF_says _ (fun _ => []) _)) hm F.kp (FunD.bindsN F fun _ _ _ _ _ _ us hl => match us, hl with | [_, _, _], _ => rfl)
theorem t__law_small (X : K.In hp) (G : hp.Ns mainGlobals mg) (c : SaysP exL fnL K) : FnA (mkG K (caN K)) P w mg base 18 "_law_small" s__law_small := a__law_small (k := 16) c (vf X G c) (He.glo_ok X G (fact c 7 (f := .glo "_law_small"))) ((t__law_draw X G c).mono (by decide)) ((t__law_some_names X G c).mono (by decide)) ((t__law_pick X G c).mono (by decide)) ((t__law_drawn_place X G c).mono (by decide)) ((t__law_drawn_roads X G c).mono (by decide))
theorem a__law_great {f__law_pick : Fn} {f__law_draw : Fn} {f__law_some_names : Fn} {f__law_drawn_place : Fn} {f__law_drawn_roads : Fn} (c : SaysP exL fnL K) (V : Vf K (caN K) mg) (hm : mg "_law_great" = some (.ref (He.ga K "_law_great"))) (A__law_pick : FnA (mkG K (caN K)) P w mg base k "_law_pick" f__law_pick) (A__law_draw : FnA (mkG K (caN K)) P w mg base k "_law_draw" f__law_draw) (A__law_some_names : FnA (mkG K (caN K)) P w mg base k "_law_some_names" f__law_some_names) (A__law_drawn_place : FnA (mkG K (caN K)) P w mg base k "_law_drawn_place" f__law_drawn_place) (A__law_drawn_roads : FnA (mkG K (caN K)) P w mg base k "_law_drawn_roads" f__law_drawn_roads) : FnA (mkG K (caN K)) P w mg base (k + 2) "_law_great" (lenI 3 (gcF (fun _ => []) (runB 6 (k__law_great f__law_pick f__law_draw f__law_some_names f__law_drawn_place f__law_drawn_roads)))) := by
  obtain ⟨fd, F⟩ := c.def_ 8 (d := df__law_great)
  exact FnA.of (ps := ["_law_pen_here", "_law_least", "_law_most"]) (FnOkG.gcL (fnD (m := 6) F (C8.fnScope_by (N := N__law_great) (P := ["_law_pen_here", "_law_least", "_law_most"]) (by decide +kernel)) V.bl rfl fun cdv A outer s H E hr => d__law_great V A__law_pick A__law_draw A__law_some_names A__law_drawn_place A__law_drawn_roads hr) (gcF_says _ (fun _ => []) _)) hm F.kp (FunD.bindsN F fun _ _ _ _ _ _ us hl => match us, hl with | [_, _, _], _ => rfl)
theorem t__law_great (X : K.In hp) (G : hp.Ns mainGlobals mg) (c : SaysP exL fnL K) : FnA (mkG K (caN K)) P w mg base 18 "_law_great" s__law_great := a__law_great (k := 16) c (vf X G c) (He.glo_ok X G (fact c 8 (f := .glo "_law_great"))) ((t__law_pick X G c).mono (by decide)) ((t__law_draw X G c).mono (by decide)) ((t__law_some_names X G c).mono (by decide)) ((t__law_drawn_place X G c).mono (by decide)) ((t__law_drawn_roads X G c).mono (by decide))
theorem a_is_integer  (c : SaysP exL fnL K) (V : Vf K (caN K) mg) (hm : mg "is_integer" = some (.ref (He.ga K "is_integer")))  : FnA (mkG K (caN K)) P w mg base (k + 2) "is_integer" (lenI 1 (gcF (fun _ => []) (runB 0 (k_is_integer )))) := by
  obtain ⟨fd, F⟩ := c.def_ 9 (d := df_is_integer)
  exact FnA.of (ps := ["value"]) (FnOkG.gcL (fnD (m := 0) F (C8.fnScope_by (N := N_is_integer) (P := ["value"]) (by decide +kernel)) V.bl rfl fun cdv A outer s H E hr => d_is_integer V  hr) (gcF_says _ (fun _ => []) _)) hm F.kp (FunD.bindsN F fun _ _ _ _ _ _ us hl => match us, hl with | [_], _ => rfl)
theorem t_is_integer (X : K.In hp) (G : hp.Ns mainGlobals mg) (c : SaysP exL fnL K) : FnA (mkG K (caN K)) P w mg base 2 "is_integer" s_is_integer := a_is_integer (k := 0) c (vf X G c) (He.glo_ok X G (fact c 9 (f := .glo "is_integer"))) 
theorem a_is_between {f_is_integer : Fn} (c : SaysP exL fnL K) (V : Vf K (caN K) mg) (hm : mg "is_between" = some (.ref (He.ga K "is_between"))) (A_is_integer : FnA (mkG K (caN K)) P w mg base k "is_integer" f_is_integer) : FnA (mkG K (caN K)) P w mg base (k + 2) "is_between" (lenI 3 (gcF (fun _ => []) (runB 0 (k_is_between f_is_integer)))) := by
  obtain ⟨fd, F⟩ := c.def_ 10 (d := df_is_between)
  exact FnA.of (ps := ["value", "least", "most"]) (FnOkG.gcL (fnD (m := 0) F (C8.fnScope_by (N := N_is_between) (P := ["value", "least", "most"]) (by decide +kernel)) V.bl rfl fun cdv A outer s H E hr => d_is_between V A_is_integer hr) (gcF_says _ (fun _ => []) _)) hm F.kp (FunD.bindsN F fun _ _ _ _ _ _ us hl => match us, hl with | [_, _, _], _ => rfl)
theorem t_is_between (X : K.In hp) (G : hp.Ns mainGlobals mg) (c : SaysP exL fnL K) : FnA (mkG K (caN K)) P w mg base 4 "is_between" s_is_between := a_is_between (k := 2) c (vf X G c) (He.glo_ok X G (fact c 10 (f := .glo "is_between"))) ((t_is_integer X G c).mono (by decide))
theorem a_is_size {f_is_between : Fn} (c : SaysP exL fnL K) (V : Vf K (caN K) mg) (hm : mg "is_size" = some (.ref (He.ga K "is_size"))) (A_is_between : FnA (mkG K (caN K)) P w mg base k "is_between" f_is_between) : FnA (mkG K (caN K)) P w mg base (k + 2) "is_size" (lenI 2 (gcF (fun _ => []) (runB 0 (k_is_size f_is_between)))) := by
  obtain ⟨fd, F⟩ := c.def_ 11 (d := df_is_size)
  exact FnA.of (ps := ["value", "least"]) (FnOkG.gcL (fnD (m := 0) F (C8.fnScope_by (N := N_is_size) (P := ["value", "least"]) (by decide +kernel)) V.bl rfl fun cdv A outer s H E hr => d_is_size V A_is_between hr) (gcF_says _ (fun _ => []) _)) hm F.kp (FunD.bindsN F fun _ _ _ _ _ _ us hl => match us, hl with | [_, _], _ => rfl)
theorem t_is_size (X : K.In hp) (G : hp.Ns mainGlobals mg) (c : SaysP exL fnL K) : FnA (mkG K (caN K)) P w mg base 6 "is_size" s_is_size := a_is_size (k := 4) c (vf X G c) (He.glo_ok X G (fact c 11 (f := .glo "is_size"))) ((t_is_between X G c).mono (by decide))
theorem a_is_list  (c : SaysP exL fnL K) (V : Vf K (caN K) mg) (hm : mg "is_list" = some (.ref (He.ga K "is_list")))  : FnA (mkG K (caN K)) P w mg base (k + 2) "is_list" (lenI 1 (gcF (fun _ => []) (runB 0 (k_is_list )))) := by
  obtain ⟨fd, F⟩ := c.def_ 12 (d := df_is_list)
  exact FnA.of (ps := ["value"]) (FnOkG.gcL (fnD (m := 0) F (C8.fnScope_by (N := N_is_list) (P := ["value"]) (by decide +kernel)) V.bl rfl fun cdv A outer s H E hr => d_is_list V  hr) (gcF_says _ (fun _ => []) _)) hm F.kp (FunD.bindsN F fun _ _ _ _ _ _ us hl => match us, hl with | [_], _ => rfl)
theorem t_is_list (X : K.In hp) (G : hp.Ns mainGlobals mg) (c : SaysP exL fnL K) : FnA (mkG K (caN K)) P w mg base 2 "is_list" s_is_list := a_is_list (k := 0) c (vf X G c) (He.glo_ok X G (fact c 12 (f := .glo "is_list"))) 
theorem a_is_name  (c : SaysP exL fnL K) (V : Vf K (caN K) mg) (hm : mg "is_name" = some (.ref (He.ga K "is_name")))  : FnA (mkG K (caN K)) P w mg base (k + 2) "is_name" (lenI 1 (gcF (fun _ => []) (runB 1 (k_is_name )))) := by
  obtain ⟨fd, F⟩ := c.def_ 13 (d := df_is_name)
  exact FnA.of (ps := ["value"]) (FnOkG.gcL (fnD (m := 1) F (C8.fnScope_by (N := N_is_name) (P := ["value"]) (by decide +kernel)) V.bl rfl fun cdv A outer s H E hr => d_is_name V  hr) (gcF_says _ (fun _ => []) _)) hm F.kp (FunD.bindsN F fun _ _ _ _ _ _ us hl => match us, hl with | [_], _ => rfl)
theorem t_is_name (X : K.In hp) (G : hp.Ns mainGlobals mg) (c : SaysP exL fnL K) : FnA (mkG K (caN K)) P w mg base 2 "is_name" s_is_name := a_is_name (k := 0) c (vf X G c) (He.glo_ok X G (fact c 13 (f := .glo "is_name"))) 
theorem a_is_tuple_of  (c : SaysP exL fnL K) (V : Vf K (caN K) mg) (hm : mg "is_tuple_of" = some (.ref (He.ga K "is_tuple_of")))  : FnA (mkG K (caN K)) P w mg base (k + 2) "is_tuple_of" (lenI 2 (gcF (fun _ => []) (runB 0 (k_is_tuple_of )))) := by
  obtain ⟨fd, F⟩ := c.def_ 14 (d := df_is_tuple_of)
  exact FnA.of (ps := ["value", "size"]) (FnOkG.gcL (fnD (m := 0) F (C8.fnScope_by (N := N_is_tuple_of) (P := ["value", "size"]) (by decide +kernel)) V.bl rfl fun cdv A outer s H E hr => d_is_tuple_of V  hr) (gcF_says _ (fun _ => []) _)) hm F.kp (FunD.bindsN F fun _ _ _ _ _ _ us hl => match us, hl with | [_, _], _ => rfl)
theorem t_is_tuple_of (X : K.In hp) (G : hp.Ns mainGlobals mg) (c : SaysP exL fnL K) : FnA (mkG K (caN K)) P w mg base 2 "is_tuple_of" s_is_tuple_of := a_is_tuple_of (k := 0) c (vf X G c) (He.glo_ok X G (fact c 14 (f := .glo "is_tuple_of"))) 
theorem a_is_price {f_is_size : Fn} (c : SaysP exL fnL K) (V : Vf K (caN K) mg) (hm : mg "is_price" = some (.ref (He.ga K "is_price"))) (A_is_size : FnA (mkG K (caN K)) P w mg base k "is_size" f_is_size) : FnA (mkG K (caN K)) P w mg base (k + 2) "is_price" (lenI 1 (gcF (fun _ => []) (runB 0 (k_is_price f_is_size)))) := by
  obtain ⟨fd, F⟩ := c.def_ 15 (d := df_is_price)
  exact FnA.of (ps := ["value"]) (FnOkG.gcL (fnD (m := 0) F (C8.fnScope_by (N := N_is_price) (P := ["value"]) (by decide +kernel)) V.bl rfl fun cdv A outer s H E hr => d_is_price V A_is_size hr) (gcF_says _ (fun _ => []) _)) hm F.kp (FunD.bindsN F fun _ _ _ _ _ _ us hl => match us, hl with | [_], _ => rfl)
theorem t_is_price (X : K.In hp) (G : hp.Ns mainGlobals mg) (c : SaysP exL fnL K) : FnA (mkG K (caN K)) P w mg base 8 "is_price" s_is_price := a_is_price (k := 6) c (vf X G c) (He.glo_ok X G (fact c 15 (f := .glo "is_price"))) ((t_is_size X G c).mono (by decide))
theorem a_are_prices {f_is_price : Fn} {f_is_tuple_of : Fn} (c : SaysP exL fnL K) (V : Vf K (caN K) mg) (hm : mg "are_prices" = some (.ref (He.ga K "are_prices"))) (A_is_price : FnA (mkG K (caN K)) P w mg base k "is_price" f_is_price) (A_is_tuple_of : FnA (mkG K (caN K)) P w mg base k "is_tuple_of" f_is_tuple_of) : FnA (mkG K (caN K)) P w mg base (k + 2) "are_prices" (lenI 1 (gcF (fun _ => []) (runB 0 (k_are_prices f_is_price f_is_tuple_of)))) := by
  obtain ⟨fd, F⟩ := c.def_ 16 (d := df_are_prices)
  exact FnA.of (ps := ["value"]) (FnOkG.gcL (fnD (m := 0) F (C8.fnScope_by (N := N_are_prices) (P := ["value"]) (by decide +kernel)) V.bl rfl fun cdv A outer s H E hr => d_are_prices V A_is_price A_is_tuple_of hr) (gcF_says _ (fun _ => []) _)) hm F.kp (FunD.bindsN F fun _ _ _ _ _ _ us hl => match us, hl with | [_], _ => rfl)
theorem t_are_prices (X : K.In hp) (G : hp.Ns mainGlobals mg) (c : SaysP exL fnL K) : FnA (mkG K (caN K)) P w mg base 10 "are_prices" s_are_prices := a_are_prices (k := 8) c (vf X G c) (He.glo_ok X G (fact c 16 (f := .glo "are_prices"))) ((t_is_price X G c).mono (by decide)) ((t_is_tuple_of X G c).mono (by decide))
theorem a_is_place {f_is_name : Fn} {f_is_tuple_of : Fn} {f_is_size : Fn} {f_are_prices : Fn} (c : SaysP exL fnL K) (V : Vf K (caN K) mg) (hm : mg "is_place" = some (.ref (He.ga K "is_place"))) (A_is_name : FnA (mkG K (caN K)) P w mg base k "is_name" f_is_name) (A_is_tuple_of : FnA (mkG K (caN K)) P w mg base k "is_tuple_of" f_is_tuple_of) (A_is_size : FnA (mkG K (caN K)) P w mg base k "is_size" f_is_size) (A_are_prices : FnA (mkG K (caN K)) P w mg base k "are_prices" f_are_prices) : FnA (mkG K (caN K)) P w mg base (k + 2) "is_place" (lenI 1 (gcF (fun _ => []) (runB 0 (k_is_place f_is_name f_is_tuple_of f_is_size f_are_prices)))) := by
  obtain ⟨fd, F⟩ := c.def_ 17 (d := df_is_place)
  exact FnA.of (ps := ["value"]) (FnOkG.gcL (fnD (m := 0) F (C8.fnScope_by (N := N_is_place) (P := ["value"]) (by decide +kernel)) V.bl rfl fun cdv A outer s H E hr => d_is_place V A_is_name A_is_tuple_of A_is_size A_are_prices hr) (gcF_says _ (fun _ => []) _)) hm F.kp (FunD.bindsN F fun _ _ _ _ _ _ us hl => match us, hl with | [_], _ => rfl)
theorem t_is_place (X : K.In hp) (G : hp.Ns mainGlobals mg) (c : SaysP exL fnL K) : FnA (mkG K (caN K)) P w mg base 12 "is_place" s_is_place := a_is_place (k := 10) c (vf X G c) (He.glo_ok X G (fact c 17 (f := .glo "is_place"))) ((t_is_name X G c).mono (by decide)) ((t_is_tuple_of X G c).mono (by decide)) ((t_is_size X G c).mono (by decide)) ((t_are_prices X G c).mono (by decide))
theorem a_checked_places {f_is_list : Fn} {f_is_place : Fn} (c : SaysP exL fnL K) (V : Vf K (caN K) mg) (hm : mg "checked_places" = some (.ref (He.ga K "checked_places"))) (A_is_list : FnA (mkG K (caN K)) P w mg base k "is_list" f_is_list) (A_is_place : FnA (mkG K (caN K)) P w mg base k "is_place" f_is_place) : FnA (mkG K (caN K)) P w mg base (k + 2) "checked_places" (lenI 1 (gcF (fun _ => []) (runB 3 (k_checked_places f_is_list f_is_place)))) := by
  obtain ⟨fd, F⟩ := c.def_ 18 (d := df_checked_places)
  exact FnA.of (ps := ["places"]) (FnOkG.gcL (fnD (m := 3) F (C8.fnScope_by (N := N_checked_places) (P := ["places"]) (by decide +kernel)) V.bl rfl fun cdv A outer s H E hr => d_checked_places V A_is_list A_is_place hr) (gcF_says _ (fun _ => []) _)) hm F.kp (FunD.bindsN F fun _ _ _ _ _ _ us hl => match us, hl with | [_], _ => rfl)
theorem t_checked_places (X : K.In hp) (G : hp.Ns mainGlobals mg) (c : SaysP exL fnL K) : FnA (mkG K (caN K)) P w mg base 14 "checked_places" s_checked_places := a_checked_places (k := 12) c (vf X G c) (He.glo_ok X G (fact c 18 (f := .glo "checked_places"))) ((t_is_list X G c).mono (by decide)) ((t_is_place X G c).mono (by decide))
theorem a_is_road {f_is_size : Fn} {f_is_tuple_of : Fn} {f_is_name : Fn} (c : SaysP exL fnL K) (V : Vf K (caN K) mg) (hm : mg "is_road" = some (.ref (He.ga K "is_road"))) (A_is_size : FnA (mkG K (caN K)) P w mg base k "is_size" f_is_size) (A_is_tuple_of : FnA (mkG K (caN K)) P w mg base k "is_tuple_of" f_is_tuple_of) (A_is_name : FnA (mkG K (caN K)) P w mg base k "is_name" f_is_name) : FnA (mkG K (caN K)) P w mg base (k + 2) "is_road" (lenI 2 (gcF (fun _ => []) (runB 3 (k_is_road f_is_size f_is_tuple_of f_is_name)))) := by
  obtain ⟨fd, F⟩ := c.def_ 19 (d := df_is_road)
  exact FnA.of (ps := ["value", "names"]) (FnOkG.gcL (fnD (m := 3) F (C8.fnScope_by (N := N_is_road) (P := ["value", "names"]) (by decide +kernel)) V.bl rfl fun cdv A outer s H E hr => d_is_road V A_is_size A_is_tuple_of A_is_name hr) (gcF_says _ (fun _ => []) _)) hm F.kp (FunD.bindsN F fun _ _ _ _ _ _ us hl => match us, hl with | [_, _], _ => rfl)
theorem t_is_road (X : K.In hp) (G : hp.Ns mainGlobals mg) (c : SaysP exL fnL K) : FnA (mkG K (caN K)) P w mg base 8 "is_road" s_is_road := a_is_road (k := 6) c (vf X G c) (He.glo_ok X G (fact c 19 (f := .glo "is_road"))) ((t_is_size X G c).mono (by decide)) ((t_is_tuple_of X G c).mono (by decide)) ((t_is_name X G c).mono (by decide))
theorem a_checked_roads {f_is_list : Fn} {f_is_road : Fn} (c : SaysP exL fnL K) (V : Vf K (caN K) mg) (hm : mg "checked_roads" = some (.ref (He.ga K "checked_roads"))) (A_is_list : FnA (mkG K (caN K)) P w mg base k "is_list" f_is_list) (A_is_road : FnA (mkG K (caN K)) P w mg base k "is_road" f_is_road) : FnA (mkG K (caN K)) P w mg base (k + 2) "checked_roads" (lenI 2 (gcF (fun _ => []) (runB 3 (k_checked_roads f_is_list f_is_road)))) := by
  obtain ⟨fd, F⟩ := c.def_ 20 (d := df_checked_roads)
  exact FnA.of (ps := ["roads", "names"]) (FnOkG.gcL (fnD (m := 3) F (C8.fnScope_by (N := N_checked_roads) (P := ["roads", "names"]) (by decide +kernel)) V.bl rfl fun cdv A outer s H E hr => d_checked_roads V A_is_list A_is_road hr) (gcF_says _ (fun _ => []) _)) hm F.kp (FunD.bindsN F fun _ _ _ _ _ _ us hl => match us, hl with | [_, _], _ => rfl)
theorem t_checked_roads (X : K.In hp) (G : hp.Ns mainGlobals mg) (c : SaysP exL fnL K) : FnA (mkG K (caN K)) P w mg base 10 "checked_roads" s_checked_roads := a_checked_roads (k := 8) c (vf X G c) (He.glo_ok X G (fact c 20 (f := .glo "checked_roads"))) ((t_is_list X G c).mono (by decide)) ((t_is_road X G c).mono (by decide))
theorem a_new_Network {f_is_size : Fn} {f_checked_places : Fn} {f_checked_roads : Fn} (c : SaysP exL fnL K) (V : Vf K (caN K) mg) (hm : Mk K (He.ga K "Network") (He.ma K (He.ga K "Network") "__init__")) (A_is_size : FnA (mkG K (caN K)) P w mg base k "is_size" f_is_size) (A_checked_places : FnA (mkG K (caN K)) P w mg base k "checked_places" f_checked_places) (A_checked_roads : FnA (mkG K (caN K)) P w mg base k "checked_roads" f_checked_roads) : MkA (mkG K (caN K)) P w mg base (k + 2) 0 "Network" (lenI 4 (gcF (fun _ => []) (runB 1 (k_new_Network f_is_size f_checked_places f_checked_roads)))) := by
  obtain ⟨fd, F⟩ := c.def_ 21 (d := df_new_Network)
  obtain ⟨ds, vd, b⟩ := FunD.binds1 (ps := ["self", "tank", "places", "roads"]) F 4 1 (List.cons_ne_nil _ _) rfl (fun T _ _ _ _ _ _ us its hl hi => match us, hl, its, hi with
    | [_, _, _, _], _, [_], _ => ⟨_, rfl, rfl⟩)
  cases vd
  exact MkA.of (ps := ["self", "tank", "places", "roads"]) (FnOkG.gcL (fnD (m := 1) F (C8.fnScope_by (N := N_new_Network) (P := ["self", "tank", "places", "roads"]) (by decide +kernel)) V.bl rfl fun cdv A outer s H E hr => d_new_Network V A_is_size A_checked_places A_checked_roads hr) (gcF_says _ (fun _ => []) _)) hm V.k_Network b
theorem t_new_Network (X : K.In hp) (G : hp.Ns mainGlobals mg) (c : SaysP exL fnL K) : MkA (mkG K (caN K)) P w mg base 16 0 "Network" s_new_Network := a_new_Network (k := 14) c (vf X G c) (He.mkr_ok (fact c 34 (f := .mkr "Network"))) ((t_is_size X G c).mono (by decide)) ((t_checked_places X G c).mono (by decide)) ((t_checked_roads X G c).mono (by decide))
theorem a__law_made {f_new_Network : Fn} (c : SaysP exL fnL K) (V : Vf K (caN K) mg) (hm : mg "_law_made" = some (.ref (He.ga K "_law_made"))) (M_Network : MkA (mkG K (caN K)) P w mg base k 0 "Network" f_new_Network) : FnA (mkG K (caN K)) P w mg base (k + 2) "_law_made" (lenI 1 (gcF (fun d => match d with | .ref i => [i] | _ => []) (runB 0 (k__law_made f_new_Network)))) := by
  obtain ⟨fd, F⟩ := c.def_ 22 (d := df__law_made)
  exact FnA.of (ps := ["_law_plain"]) (FnOkG.gcL (fnD (m := 0) F (C8.fnScope_by (N := N__law_made) (P := ["_law_plain"]) (by decide +kernel)) V.bl rfl fun cdv A outer s H E hr => d__law_made V M_Network hr) (gcF_says _ (fun d => match d with | .ref i => [i] | _ => []) _)) hm F.kp (FunD.bindsN F fun _ _ _ _ _ _ us hl => match us, hl with | [_], _ => rfl)
theorem t__law_made (X : K.In hp) (G : hp.Ns mainGlobals mg) (c : SaysP exL fnL K) : FnA (mkG K (caN K)) P w mg base 18 "_law_made" s__law_made := a__law_made (k := 16) c (vf X G c) (He.glo_ok X G (fact c 21 (f := .glo "_law_made"))) ((t_new_Network X G c).mono (by decide))
theorem a__law_names_of  (c : SaysP exL fnL K) (V : Vf K (caN K) mg) (hm : mg "_law_names_of" = some (.ref (He.ga K "_law_names_of")))  : FnA (mkG K (caN K)) P w mg base (k + 2) "_law_names_of" (lenI 1 (gcF (fun _ => []) (runB 1 (k__law_names_of )))) := by
  obtain ⟨fd, F⟩ := c.def_ 23 (d := df__law_names_of)
  exact FnA.of (ps := ["_law_plain"]) (FnOkG.gcL (fnD (m := 1) F (C8.fnScope_by (N := N__law_names_of) (P := ["_law_plain"]) (by decide +kernel)) V.bl rfl fun cdv A outer s H E hr => d__law_names_of V  hr) (gcF_says _ (fun _ => []) _)) hm F.kp (FunD.bindsN F fun _ _ _ _ _ _ us hl => match us, hl with | [_], _ => rfl)
theorem t__law_names_of (X : K.In hp) (G : hp.Ns mainGlobals mg) (c : SaysP exL fnL K) : FnA (mkG K (caN K)) P w mg base 2 "_law_names_of" s__law_names_of := a__law_names_of (k := 0) c (vf X G c) (He.glo_ok X G (fact c 22 (f := .glo "_law_names_of"))) 
theorem a_m_need_place {f_is_name : Fn} (c : SaysP exL fnL K) (V : Vf K (caN K) mg) (hm : Meth K (He.ga K "Network") "need_place" (He.ma K (He.ga K "Network") "need_place")) (A_is_name : FnA (mkG K (caN K)) P w mg base k "is_name" f_is_name) : MeA (mkG K (caN K)) P w mg base (k + 2) 0 "need_place" (lenI 2 (gcF (fun _ => []) (runB 0 (k_m_need_place f_is_name)))) := by
  obtain ⟨fd, F⟩ := c.def_ 24 (d := df_m_need_place)
  exact MeA.of (ps := ["self", "name"]) (FnOkG.gcL (fnD (m := 0) F (C8.fnScope_by (N := N_m_need_place) (P := ["self", "name"]) (by decide +kernel)) V.bl rfl fun cdv A outer s H E hr => d_m_need_place V A_is_name hr) (gcF_says _ (fun _ => []) _)) hm (FunD.bindsN F fun _ _ _ _ _ _ us hl => match us, hl with | [_, _], _ => rfl)
theorem t_m_need_place (X : K.In hp) (G : hp.Ns mainGlobals mg) (c : SaysP exL fnL K) : MeA (mkG K (caN K)) P w mg base 4 0 "need_place" s_m_need_place := a_m_need_place (k := 2) c (vf X G c) (He.meth_ok (fact c 40 (f := .meth "Network" "need_place"))) ((t_is_name X G c).mono (by decide))
theorem a_g_roads_from {f_m_need_place : Fn} (c : SaysP exL fnL K) (V : Vf K (caN K) mg) (hm : Meth K (He.ga K "Network") "roads_from" (He.ma K (He.ga K "Network") "roads_from")) (T_need_place : MeA (mkG K (caN K)) P w mg base k 0 "need_place" f_m_need_place) : GeA (mkG K (caN K)) P w mg base (k + 3) 0 "roads_from" (lenG 2 (k_g_roads_from f_m_need_place)) := by
  obtain ⟨fd, F⟩ := c.def_ 25 (d := df_g_roads_from)
  obtain ⟨S, hnc⟩ := gscope_by (N := N_g_roads_from) (P := ["self", "place"]) (sc := (df_g_roads_from).scope) (by decide +kernel)
  have b : Binds (mkG K (caN K)).K fd ["self", "place"] [] := (FunD.bindsN F fun _ _ _ _ _ _ us hl => match us, hl with | [_, _], _ => rfl)
  have e : (df_g_roads_from).body = gForm ((df_g_roads_from).body) := form_g_roads_from
  have F2 := F
  rw [e] at F2
  exact ⟨_, fd, ["self", "place"], _, gn_of (m := 3) (k := k + 1) F2 S V.bl rfl hnc (fun cdv A outer L hr => ⟨fun s H => dG_g_roads_from V T_need_place hr, fun s H => dT_g_roads_from V T_need_place hr, fun s H => dE_g_roads_from V T_need_place hr⟩) (fun cdv A outer L s H hr => dS_g_roads_from V T_need_place hr) (fun cdv A outer L s H hr => dI_g_roads_from V T_need_place hr), hm, b, fun es h => rfl⟩
theorem t_g_roads_from (X : K.In hp) (G : hp.Ns mainGlobals mg) (c : SaysP exL fnL K) : GeA (mkG K (caN K)) P w mg base 7 0 "roads_from" s_g_roads_from := a_g_roads_from (k := 4) c (vf X G c) (He.meth_ok (fact c 41 (f := .meth "Network" "roads_from"))) ((t_m_need_place X G c).mono (by decide))
theorem a_searched {f_g_roads_from : FnL} (c : SaysP exL fnL K) (V : Vf K (caN K) mg) (hm : mg "searched" = some (.ref (He.ga K "searched"))) (U_roads_from : GeA (mkG K (caN K)) P w mg base k 0 "roads_from" f_g_roads_from) : FnA (mkG K (caN K)) P w mg base (k + 2) "searched" (lenI 2 (gcF (fun _ => []) (runB 10 (k_searched f_g_roads_from)))) := by
  obtain ⟨fd, F⟩ := c.def_ 26 (d := df_searched)
  exact FnA.of (ps := ["network", "u"]) (FnOkG.gcL (fnD (m := 10) F (C8.fnScope_by (N := N_searched) (P := ["network", "u"]) (by decide +kernel)) V.bl rfl fun cdv A outer s H E hr => d_searched V U_roads_from hr) (gcF_says _ (fun _ => []) _)) hm F.kp (FunD.bindsN F fun _ _ _ _ _ _ us hl => match us, hl with | [_, _], _ => rfl)
theorem t_searched (X : K.In hp) (G : hp.Ns mainGlobals mg) (c : SaysP exL fnL K) : FnA (mkG K (caN K)) P w mg base 9 "searched" s_searched := a_searched (k := 7) c (vf X G c) (He.glo_ok X G (fact c 23 (f := .glo "searched"))) ((t_g_roads_from X G c).mono (by decide))
theorem a_way {f_m_need_place : Fn} {f_searched : Fn} (c : SaysP exL fnL K) (V : Vf K (caN K) mg) (hm : mg "way" = some (.ref (He.ga K "way"))) (T_need_place : MeA (mkG K (caN K)) P w mg base k 0 "need_place" f_m_need_place) (A_searched : FnA (mkG K (caN K)) P w mg base k "searched" f_searched) : FnA (mkG K (caN K)) P w mg base (k + 2) "way" (lenI 3 (gcF (fun _ => []) (runB 3 (k_way f_m_need_place f_searched)))) := by
  obtain ⟨fd, F⟩ := c.def_ 27 (d := df_way)
  exact FnA.of (ps := ["network", "u", "v"]) (FnOkG.gcL (fnD (m := 3) F (C8.fnScope_by (N := N_way) (P := ["network", "u", "v"]) (by decide +kernel)) V.bl rfl fun cdv A outer s H E hr => d_way V T_need_place A_searched hr) (gcF_says _ (fun _ => []) _)) hm F.kp (FunD.bindsN F fun _ _ _ _ _ _ us hl => match us, hl with | [_, _, _], _ => rfl)
theorem t_way (X : K.In hp) (G : hp.Ns mainGlobals mg) (c : SaysP exL fnL K) : FnA (mkG K (caN K)) P w mg base 11 "way" s_way := a_way (k := 9) c (vf X G c) (He.glo_ok X G (fact c 24 (f := .glo "way"))) ((t_m_need_place X G c).mono (by decide)) ((t_searched X G c).mono (by decide))
theorem a__law_least_uses  (c : SaysP exL fnL K) (V : Vf K (caN K) mg) (hm : mg "_law_least_uses" = some (.ref (He.ga K "_law_least_uses")))  : FnA (mkG K (caN K)) P w mg base (k + 2) "_law_least_uses" (lenI 2 (gcF (fun _ => []) (runB 6 (k__law_least_uses )))) := by
  obtain ⟨fd, F⟩ := c.def_ 28 (d := df__law_least_uses)
  exact FnA.of (ps := ["_law_plain", "_law_u"]) (FnOkG.gcL (fnD (m := 6) F (C8.fnScope_by (N := N__law_least_uses) (P := ["_law_plain", "_law_u"]) (by decide +kernel)) V.bl rfl fun cdv A outer s H E hr => d__law_least_uses V  hr) (gcF_says _ (fun _ => []) _)) hm F.kp (FunD.bindsN F fun _ _ _ _ _ _ us hl => match us, hl with | [_, _], _ => rfl)
theorem t__law_least_uses (X : K.In hp) (G : hp.Ns mainGlobals mg) (c : SaysP exL fnL K) : FnA (mkG K (caN K)) P w mg base 2 "_law_least_uses" s__law_least_uses := a__law_least_uses (k := 0) c (vf X G c) (He.glo_ok X G (fact c 25 (f := .glo "_law_least_uses"))) 
theorem a__law_right {f__law_least_uses : Fn} (c : SaysP exL fnL K) (V : Vf K (caN K) mg) (hm : mg "_law_right" = some (.ref (He.ga K "_law_right"))) (A__law_least_uses : FnA (mkG K (caN K)) P w mg base k "_law_least_uses" f__law_least_uses) : FnA (mkG K (caN K)) P w mg base (k + 2) "_law_right" (lenI 4 (gcF (fun _ => []) (runB 6 (k__law_right f__law_least_uses)))) := by
  obtain ⟨fd, F⟩ := c.def_ 29 (d := df__law_right)
  exact FnA.of (ps := ["_law_plain", "_law_u", "_law_v", "_law_told"]) (FnOkG.gcL (fnD (m := 6) F (C8.fnScope_by (N := N__law_right) (P := ["_law_plain", "_law_u", "_law_v", "_law_told"]) (by decide +kernel)) V.bl rfl fun cdv A outer s H E hr => d__law_right V A__law_least_uses hr) (gcF_says _ (fun _ => []) _)) hm F.kp (FunD.bindsN F fun _ _ _ _ _ _ us hl => match us, hl with | [_, _, _, _], _ => rfl)
theorem t__law_right (X : K.In hp) (G : hp.Ns mainGlobals mg) (c : SaysP exL fnL K) : FnA (mkG K (caN K)) P w mg base 4 "_law_right" s__law_right := a__law_right (k := 2) c (vf X G c) (He.glo_ok X G (fact c 26 (f := .glo "_law_right"))) ((t__law_least_uses X G c).mono (by decide))
theorem t_lawF (X : K.In hp) (G : hp.Ns mainGlobals mg) (c : SaysP exL fnL K) {fd : FuncData} (F : FunD K df_law.name df_law.qual df_law.params df_law.body df_law.scope (df_law.dfl.map (He.Dv.v K)) [] (df_law.path K) fd) : FnOkG P w K mg base (L2.CX P w) 20 (He.ga K "law") fd ["_law_script"] (spD (mkG K (caN K)) 1 s_law) := by
  have V := vf X G c
  have A__law_pen := (t__law_pen (P := P) (w := w) (base := base) X G c).mono (k := 18) (by decide)
  have A__law_small := (t__law_small (P := P) (w := w) (base := base) X G c).mono (k := 18) (by decide)
  have A__law_great := (t__law_great (P := P) (w := w) (base := base) X G c).mono (k := 18) (by decide)
  have A__law_made := (t__law_made (P := P) (w := w) (base := base) X G c).mono (k := 18) (by decide)
  have A__law_names_of := (t__law_names_of (P := P) (w := w) (base := base) X G c).mono (k := 18) (by decide)
  have A_way := (t_way (P := P) (w := w) (base := base) X G c).mono (k := 18) (by decide)
  have A__law_right := (t__law_right (P := P) (w := w) (base := base) X G c).mono (k := 18) (by decide)
  exact fnD (m := 7) F (C8.fnScope_by (N := N_law) (P := ["_law_script"]) (by decide +kernel)) V.bl rfl fun cdv A outer s H E hr => d_law V A__law_pen A__law_small A__law_great A__law_made A__law_names_of A_way A__law_right hr
theorem sp_law {K : PySem.W.Frag} {H : Hp} {a : Addr} {ns : List Int} (w : ∀ ns : List Int, WR (s_law [.scr ns] []) fun v _ => v = .bl true) (S : SqL K H a (ns.map V.int)) : spD (mkG K (caN K)) 1 s_law [.ref a] H (fun v _ => v = .bl true) fun _ _ _ => False := by
  obtain ⟨v, h', e, rfl⟩ := (w ns).of
  refine ⟨rfl, ⟨[], fun _ => False⟩, [.scr ns], [], ⟨rfl, (fun _ _ _ h => by simp at h), (fun _ _ h => by simp at h), (fun _ _ h => by simp at h), (fun _ h => h.elim), (fun _ _ _ h => h)⟩, .cons ?_ .nil, ?_⟩
  · unfold Rp
    refine ⟨a, rfl, ?_⟩
    rcases S with S | S
    · exact .inl ⟨S, (fun h => by simp at h), fun h => h⟩
    · exact .inr S
  · rw [e]
    intro rho' H' b _ _ r
    exact r.bl_
end
def lawLvl : Nat := 20
end DL

set_option maxHeartbeats 8000000
namespace DL
local macro_rules | `(tactic| walk_at "DL.S") => `(tactic| (repeat first | (with_reducible refine Eq.mpr w_seq ?_) | (with_reducible refine Eq.mpr w_set ?_) | (with_reducible refine Eq.mpr w_op ?_) | (with_reducible refine Eq.mpr w_ix ?_) | (with_reducible refine Eq.mpr w_c ?_) | (with_reducible refine Eq.mpr w_bl ?_) | (with_reducible refine Eq.mpr w_blt ?_) | (with_reducible refine Eq.mpr w_cons ?_) | (with_reducible refine Eq.mpr w_nil ?_) | (with_reducible refine Eq.mpr w_ret ?_) | (with_reducible refine Eq.mpr w_asg ?_) | (with_reducible refine Eq.mpr w_call ?_) | (with_reducible refine Eq.mpr w_and ?_) | (with_reducible refine Eq.mpr w_sif ?_) | (with_reducible refine Eq.mpr w_snil ?_) | (with_reducible refine Eq.mpr w_fz ?_) | (with_reducible refine Eq.mpr w_disp ?_) | (with_reducible refine Eq.mpr w_tup ?_) | (with_reducible refine Eq.mpr w_al ?_) | (with_reducible refine Eq.mpr w_bm ?_) | (with_reducible refine Eq.mpr w_or ?_) | (with_reducible refine Eq.mpr w_andV ?_) | (with_reducible refine Eq.mpr w_orV ?_) | (with_reducible refine Eq.mpr w_notV ?_) | (with_reducible refine Eq.mpr w_not ?_) | (with_reducible refine Eq.mpr w_if ?_) | (with_reducible refine Eq.mpr w_os ?_) | (with_reducible refine Eq.mpr w_on ?_) | (with_reducible refine Eq.mpr w_sl ?_) | (with_reducible refine Eq.mpr w_attr ?_) | (with_reducible refine Eq.mpr w_expr ?_) | (with_reducible refine Eq.mpr w_run ?_) | (with_reducible refine Eq.mpr w_prop ?_) | (with_reducible refine Eq.mpr w_meth ?_) | (with_reducible refine Eq.mpr w_own ?_) | (with_reducible refine Eq.mpr w_make ?_) | (with_reducible refine Eq.mpr w_chain ?_) | (with_reducible refine Eq.mpr w_par ?_) | (with_reducible refine Eq.mpr w_par3 ?_) | (with_reducible refine Eq.mpr w_setF ?_) | (with_reducible refine Eq.mpr w_setT ?_) | (with_reducible refine Eq.mpr w_fzM ?_) | (with_reducible refine Eq.mpr w_alM ?_) | (with_reducible refine Eq.mpr w_mnew ?_) | (with_reducible refine Eq.mpr w_pnil ?_) | (with_reducible refine Eq.mpr w_pcons ?_) | (with_reducible refine Eq.mpr w_mdisp ?_) | (with_reducible refine Eq.mpr w_for ?_) | (with_reducible refine Eq.mpr w_dcomp ?_) | (with_reducible refine Eq.mpr w_dcompM ?_) | (with_reducible refine Eq.mpr w_rng1 ?_) | (with_reducible refine Eq.mpr w_ival ?_) | (with_reducible refine Eq.mpr w_ikeys ?_) | (with_reducible refine Eq.mpr w_dstep ?_) | (with_reducible refine Eq.mpr w_dstepL ?_) | (with_reducible refine Eq.mpr w_neg ?_) | (with_reducible refine Eq.mpr w_con ?_) | (with_reducible refine Eq.mpr w_catA ?_) | (with_reducible refine Eq.mpr w_zip ?_) | (with_reducible refine Eq.mpr w_enum ?_) | (with_reducible refine Eq.mpr w_sattr ?_) | (with_reducible refine Eq.mpr w_dan ?_) | (with_reducible refine Eq.mpr w_tys ?_) | (with_reducible refine Eq.mpr w_star ?_) | (with_reducible refine Eq.mpr w_makeS ?_) | (with_reducible refine Eq.mpr w_stat ?_) | (with_reducible refine Eq.mpr w_enumT ?_) | ((with_reducible refine Eq.mpr w_v ?_); refine ⟨_, rfl, ?_⟩) | (with_reducible refine Eq.mpr wr_ok ?_) | (with_reducible refine sif_t ?_) | (with_reducible refine sif_f ?_) | (with_reducible refine ⟨_, _, gt2, ?_⟩) | (with_reducible refine ⟨_, _, gt3, ?_⟩) | (with_reducible refine ⟨_, _, gt4, ?_⟩) | (with_reducible refine ⟨_, _, isi_int, ?_⟩) | (with_reducible refine ⟨_, _, isi_bool, ?_⟩) | (with_reducible refine ⟨_, _, isi_str, ?_⟩) | (with_reducible refine ⟨_, _, isi_tup, ?_⟩) | (with_reducible refine ⟨_, _, isi_lt, ?_⟩) | (with_reducible refine ⟨_, pow30, ?_⟩) | (with_reducible refine ⟨_, eq_int, ?_⟩) | (with_reducible refine ⟨_, mod_int (by decide), ?_⟩) | (refine sif_t ?_) | (refine sif_f ?_) | (refine ⟨rfl, ?_⟩) | (refine ⟨_, rfl, ?_⟩) | (refine ⟨_, _, rfl, ?_⟩) | (refine ⟨_, _, _, rfl, ?_⟩)))
local macro_rules | `(tactic| walk_at "DL.T") => `(tactic| (repeat first | (with_reducible refine Eq.mpr w_set ?_) | (with_reducible refine Eq.mpr w_op ?_) | (with_reducible refine Eq.mpr w_ix ?_) | (with_reducible refine Eq.mpr w_c ?_) | (with_reducible refine Eq.mpr w_bl ?_) | (with_reducible refine Eq.mpr w_blt ?_) | (with_reducible refine Eq.mpr w_cons ?_) | (with_reducible refine Eq.mpr w_nil ?_) | (with_reducible refine Eq.mpr w_ret ?_) | (with_reducible refine Eq.mpr w_asg ?_) | (with_reducible refine Eq.mpr w_call ?_) | (with_reducible refine Eq.mpr w_and ?_) | (with_reducible refine Eq.mpr w_sif ?_) | (with_reducible refine Eq.mpr w_snil ?_) | (with_reducible refine Eq.mpr w_fz ?_) | (with_reducible refine Eq.mpr w_disp ?_) | (with_reducible refine Eq.mpr w_tup ?_) | (with_reducible refine Eq.mpr w_al ?_) | (with_reducible refine Eq.mpr w_bm ?_) | (with_reducible refine Eq.mpr w_or ?_) | (with_reducible refine Eq.mpr w_andV ?_) | (with_reducible refine Eq.mpr w_orV ?_) | (with_reducible refine Eq.mpr w_notV ?_) | (with_reducible refine Eq.mpr w_not ?_) | (with_reducible refine Eq.mpr w_if ?_) | (with_reducible refine Eq.mpr w_os ?_) | (with_reducible refine Eq.mpr w_on ?_) | (with_reducible refine Eq.mpr w_sl ?_) | (with_reducible refine Eq.mpr w_attr ?_) | (with_reducible refine Eq.mpr w_expr ?_) | (with_reducible refine Eq.mpr w_run ?_) | (with_reducible refine Eq.mpr w_prop ?_) | (with_reducible refine Eq.mpr w_meth ?_) | (with_reducible refine Eq.mpr w_own ?_) | (with_reducible refine Eq.mpr w_make ?_) | (with_reducible refine Eq.mpr w_chain ?_) | (with_reducible refine Eq.mpr w_par ?_) | (with_reducible refine Eq.mpr w_par3 ?_) | (with_reducible refine Eq.mpr w_setF ?_) | (with_reducible refine Eq.mpr w_setT ?_) | (with_reducible refine Eq.mpr w_fzM ?_) | (with_reducible refine Eq.mpr w_alM ?_) | (with_reducible refine Eq.mpr w_mnew ?_) | (with_reducible refine Eq.mpr w_pnil ?_) | (with_reducible refine Eq.mpr w_pcons ?_) | (with_reducible refine Eq.mpr w_mdisp ?_) | (with_reducible refine Eq.mpr w_for ?_) | (with_reducible refine Eq.mpr w_dcomp ?_) | (with_reducible refine Eq.mpr w_dcompM ?_) | (with_reducible refine Eq.mpr w_rng1 ?_) | (with_reducible refine Eq.mpr w_ival ?_) | (with_reducible refine Eq.mpr w_ikeys ?_) | (with_reducible refine Eq.mpr w_dstep ?_) | (with_reducible refine Eq.mpr w_dstepL ?_) | (with_reducible refine Eq.mpr w_neg ?_) | (with_reducible refine Eq.mpr w_con ?_) | (with_reducible refine Eq.mpr w_catA ?_) | (with_reducible refine Eq.mpr w_zip ?_) | (with_reducible refine Eq.mpr w_enum ?_) | (with_reducible refine Eq.mpr w_sattr ?_) | (with_reducible refine Eq.mpr w_dan ?_) | (with_reducible refine Eq.mpr w_tys ?_) | (with_reducible refine Eq.mpr w_star ?_) | (with_reducible refine Eq.mpr w_makeS ?_) | (with_reducible refine Eq.mpr w_stat ?_) | (with_reducible refine Eq.mpr w_enumT ?_) | ((with_reducible refine Eq.mpr w_v ?_); refine ⟨_, rfl, ?_⟩) | (with_reducible refine Eq.mpr wr_ok ?_) | (with_reducible refine sif_t ?_) | (with_reducible refine sif_f ?_) | (with_reducible refine ⟨_, _, gt2, ?_⟩) | (with_reducible refine ⟨_, _, gt3, ?_⟩) | (with_reducible refine ⟨_, _, gt4, ?_⟩) | (with_reducible refine ⟨_, _, isi_int, ?_⟩) | (with_reducible refine ⟨_, _, isi_bool, ?_⟩) | (with_reducible refine ⟨_, _, isi_str, ?_⟩) | (with_reducible refine ⟨_, _, isi_tup, ?_⟩) | (with_reducible refine ⟨_, _, isi_lt, ?_⟩) | (with_reducible refine ⟨_, pow30, ?_⟩) | (with_reducible refine ⟨_, eq_int, ?_⟩) | (with_reducible refine ⟨_, mod_int (by decide), ?_⟩) | (refine sif_t ?_) | (refine sif_f ?_) | (refine ⟨rfl, ?_⟩) | (refine ⟨_, rfl, ?_⟩) | (refine ⟨_, _, rfl, ?_⟩) | (refine ⟨_, _, _, rfl, ?_⟩)))
local macro_rules | `(tactic| walk_at "DL.W") => `(tactic| (repeat first | (with_reducible refine Eq.mpr w_seq ?_) | (with_reducible refine Eq.mpr w_set ?_) | (with_reducible refine Eq.mpr w_op ?_) | (with_reducible refine Eq.mpr w_ix ?_) | (with_reducible refine Eq.mpr w_c ?_) | (with_reducible refine Eq.mpr w_bl ?_) | (with_reducible refine Eq.mpr w_blt ?_) | (with_reducible refine Eq.mpr w_cons ?_) | (with_reducible refine Eq.mpr w_nil ?_) | (with_reducible refine Eq.mpr w_ret ?_) | (with_reducible refine Eq.mpr w_asg ?_) | (with_reducible refine Eq.mpr w_call ?_) | (with_reducible refine Eq.mpr w_and ?_) | (with_reducible refine Eq.mpr w_sif ?_) | (with_reducible refine Eq.mpr w_snil ?_) | (with_reducible refine Eq.mpr w_fz ?_) | (with_reducible refine Eq.mpr w_disp ?_) | (with_reducible refine Eq.mpr w_tup ?_) | (with_reducible refine Eq.mpr w_al ?_) | (with_reducible refine Eq.mpr w_bm ?_) | (with_reducible refine Eq.mpr w_or ?_) | (with_reducible refine Eq.mpr w_andV ?_) | (with_reducible refine Eq.mpr w_orV ?_) | (with_reducible refine Eq.mpr w_notV ?_) | (with_reducible refine Eq.mpr w_not ?_) | (with_reducible refine Eq.mpr w_if ?_) | (with_reducible refine Eq.mpr w_os ?_) | (with_reducible refine Eq.mpr w_on ?_) | (with_reducible refine Eq.mpr w_sl ?_) | (with_reducible refine Eq.mpr w_attr ?_) | (with_reducible refine Eq.mpr w_expr ?_) | (with_reducible refine Eq.mpr w_run ?_) | ((with_reducible refine Eq.mpr w_v ?_); refine ⟨_, rfl, ?_⟩)))
local macro_rules | `(tactic| walk_at "DL.V") => `(tactic| (repeat first | (with_reducible refine Eq.mpr w_set ?_) | (with_reducible refine Eq.mpr w_op ?_) | (with_reducible refine Eq.mpr w_ix ?_) | (with_reducible refine Eq.mpr w_c ?_) | (with_reducible refine Eq.mpr w_bl ?_) | (with_reducible refine Eq.mpr w_blt ?_) | (with_reducible refine Eq.mpr w_cons ?_) | (with_reducible refine Eq.mpr w_nil ?_) | (with_reducible refine Eq.mpr w_ret ?_) | (with_reducible refine Eq.mpr w_asg ?_) | (with_reducible refine Eq.mpr w_call ?_) | (with_reducible refine Eq.mpr w_and ?_) | (with_reducible refine Eq.mpr w_sif ?_) | (with_reducible refine Eq.mpr w_snil ?_) | (with_reducible refine Eq.mpr w_fz ?_) | (with_reducible refine Eq.mpr w_disp ?_) | (with_reducible refine Eq.mpr w_tup ?_) | (with_reducible refine Eq.mpr w_al ?_) | (with_reducible refine Eq.mpr w_bm ?_) | (with_reducible refine Eq.mpr w_or ?_) | (with_reducible refine Eq.mpr w_andV ?_) | (with_reducible refine Eq.mpr w_orV ?_) | (with_reducible refine Eq.mpr w_notV ?_) | (with_reducible refine Eq.mpr w_not ?_) | (with_reducible refine Eq.mpr w_if ?_) | (with_reducible refine Eq.mpr w_os ?_) | (with_reducible refine Eq.mpr w_on ?_) | (with_reducible refine Eq.mpr w_sl ?_) | (with_reducible refine Eq.mpr w_attr ?_) | (with_reducible refine Eq.mpr w_expr ?_) | (with_reducible refine Eq.mpr w_run ?_) | ((with_reducible refine Eq.mpr w_v ?_); refine ⟨_, rfl, ?_⟩)))
section
open PySem PySem.Spec PyProof.Rows L2
def penO (ns : List Int) (a r : Int) : AO := .dct false [(.str "cells", .lst (ns.map .int)), (.str "at", .int a), (.str "rest", .int r)]
/-- the pen: its reading place is not beyond b -/
def Pen (p : Nat) (h : Hh) (b : Int) : Prop := ∃ ns a r, h[p]? = some (penO ns a r) ∧ 0 ≤ a ∧ a ≤ b
theorem dctOf_ref {h : Hh} {i : Nat} {t : Bool} {kvs : List (D × D)} (e : h[i]? = some (.dct t kvs)) : dctOf h (.ref i) = some (t, kvs) := by simp [dctOf, e]
theorem oIt_dct {h : Hh} {x y : D} {t : Bool} {kvs : List (D × D)} (hx : ∀ z, x ≠ .str z) (e : dctOf h x = some (t, kvs)) : oIt x y h = (dlook t kvs y).bind id := by
  unfold oIt
  split
  · exact absurd rfl (hx _)
  · simp [e]
theorem it_pen {p : Nat} {h : Hh} {ns : List Int} {a r : Int} (e : h[p]? = some (penO ns a r)) (y : D) : oIt (.ref p) y h = (dlook false [(.str "cells", .lst (ns.map .int)), (.str "at", .int a), (.str "rest", .int r)] y).bind id := oIt_dct (fun _ z => nomatch z) (dctOf_ref e)
theorem it_cells {p : Nat} {h : Hh} {ns : List Int} {a r : Int} (e : h[p]? = some (penO ns a r)) : oIt (.ref p) (.str "cells") h = some (.lst (ns.map .int)) := (it_pen e _).trans rfl
theorem it_at {p : Nat} {h : Hh} {ns : List Int} {a r : Int} (e : h[p]? = some (penO ns a r)) : oIt (.ref p) (.str "at") h = some (.int a) := (it_pen e _).trans rfl
theorem it_rest {p : Nat} {h : Hh} {ns : List Int} {a r : Int} (e : h[p]? = some (penO ns a r)) : oIt (.ref p) (.str "rest") h = some (.int r) := (it_pen e _).trans rfl
theorem set_at {p : Nat} {h : Hh} {ns : List Int} {a r i : Int} (e : h[p]? = some (penO ns a r)) : setIt (.ref p) (.str "at") (.int i) h = some (h.set p (penO ns i r)) := by
  simp only [setIt, e]
  rfl
theorem set_rest {p : Nat} {h : Hh} {ns : List Int} {a r i : Int} (e : h[p]? = some (penO ns a r)) : setIt (.ref p) (.str "rest") (.int i) h = some (h.set p (penO ns a i)) := by
  simp only [setIt, e]
  rfl
theorem dpL_ints (h : Hh) (n : Nat) : ∀ ns : List Int, dpL (dp h n) (ns.map .int) = some (ns.map PyData.int)
  | [] => rfl
  | i :: ns => by
    have := dpL_ints h n ns
    cases n <;> simp [dpL, dp, this]
theorem lay_ints : ∀ ns : List Int, PyData.canLayAll0 (ns.map PyData.int) = true
  | [] => by simp [PyData.canLayAll0]
  | i :: ns => by simp [PyData.canLayAll0, PyData.canLay0, lay_ints ns]
theorem ne_nil {h : Hh} {ns : List Int} : oNeC (.lst (ns.map .int)) (.lst []) h = some (.bl (!ns.isEmpty)) := by
  have e1 : dp h 12 (.lst (ns.map .int)) = some (.list (ns.map PyData.int)) := by
    show (match dpL (dp h 11) (ns.map .int) with | some ps => some (PyData.list ps) | none => none) = _
    rw [dpL_ints]
  have e2 : dp h 12 (.lst []) = some (.list []) := rfl
  have e3 : eqD h (.lst (ns.map .int)) (.lst []) = some ns.isEmpty := by
    unfold eqD
    rw [e1, e2]
    cases ns with
    | nil => simp [PyData.canLay0, PyData.canLayAll0, PyData.eqv, PyData.eqvAll]
    | cons i ns => simp [PyData.canLay0, PyData.canLayAll0, lay_ints, PyData.eqv, PyData.eqvAll]
  unfold oNeC
  rw [e3]
theorem get_set {p : Nat} {h : Hh} {o o' : AO} (e : h[p]? = some o) : (h.set p o')[p]? = some o' := by
  have := (List.getElem?_eq_some_iff.mp e).1
  simp [this]
theorem ints_nr (n : Nat) : ∀ ns : List Int, D.nrL n (ns.map .int)
  | [] => by unfold D.nrL; trivial
  | i :: ns => by
    show D.nrL n (D.int i :: ns.map .int)
    unfold D.nrL
    exact ⟨by unfold D.nr; trivial, ints_nr n ns⟩
theorem pen_nr (n : Nat) (ns : List Int) (a r : Int) : (penO ns a r).nr n := by
  show D.nrL n [.lst (ns.map .int), .int a, .int r]
  unfold D.nrL
  refine ⟨by unfold D.nr; exact ints_nr n ns, ?_⟩
  unfold D.nrL
  refine ⟨by unfold D.nr; trivial, ?_⟩
  unfold D.nrL
  refine ⟨by unfold D.nr; trivial, ?_⟩
  unfold D.nrL
  trivial
/-- the pen moved on, not beyond b; the rest stands -/
def PenTo (p : Nat) (h : Hh) (b : Int) (h1 : Hh) : Prop := ∃ ns a r, 0 ≤ a ∧ a ≤ b ∧ h1 = h.set p (penO ns a r)
theorem Pen.lt {p : Nat} {h : Hh} {b : Int} (P : Pen p h b) : p < h.length := by
  obtain ⟨_, _, _, e, _⟩ := P
  exact (List.getElem?_eq_some_iff.mp e).1
theorem Pen.mono {p : Nat} {h : Hh} {b c : Int} (P : Pen p h b) (le : b ≤ c) : Pen p h c := by
  obtain ⟨ns, a, r, e, h1, h2⟩ := P
  exact ⟨ns, a, r, e, h1, by omega⟩
theorem PenTo.mono {p : Nat} {h h1 : Hh} {b c : Int} (P : PenTo p h b h1) (le : b ≤ c) : PenTo p h c h1 := by
  obtain ⟨ns, a, r, h2, h3, e⟩ := P
  exact ⟨ns, a, r, h2, by omega, e⟩
theorem PenTo.len {p : Nat} {h h1 : Hh} {b : Int} (P : PenTo p h b h1) : h1.length = h.length := by
  obtain ⟨ns, a, r, _, _, e⟩ := P
  rw [e, List.length_set]
theorem PenTo.pen {p : Nat} {h h1 : Hh} {b : Int} (hp : p < h.length) (P : PenTo p h b h1) : Pen p h1 b := by
  obtain ⟨ns, a, r, h2, h3, e⟩ := P
  exact ⟨ns, a, r, by rw [e, List.getElem?_set_self hp], h2, h3⟩
theorem PenTo.get {p i : Nat} {h h1 : Hh} {b : Int} (P : PenTo p h b h1) (hi : i ≠ p) : h1[i]? = h[i]? := by
  obtain ⟨ns, a, r, _, _, e⟩ := P
  rw [e, List.getElem?_set_ne (fun z => hi z.symm)]
theorem PenTo.old {p n i : Nat} {h h1 : Hh} {b : Int} {o : AO} (P : PenTo p h b h1) (e : h1[i]? = some o) : h[i]? = some o ∨ o.nr n := by
  by_cases q : i = p
  · obtain ⟨ns, a, r, _, _, e2⟩ := P
    subst q
    rw [e2] at e
    by_cases z : i < h.length
    · rw [List.getElem?_set_self z] at e
      cases e
      exact .inr (pen_nr _ _ _ _)
    · rw [List.getElem?_eq_none (by simpa using Nat.le_of_not_lt z)] at e
      cases e
  · rw [P.get q] at e
    exact .inl e
theorem PenTo.trans {p : Nat} {h h1 h2 : Hh} {b c : Int} (P : PenTo p h b h1) (P2 : PenTo p h1 c h2) : PenTo p h c h2 := by
  obtain ⟨ns, a, r, _, _, e⟩ := P
  obtain ⟨ns2, a2, r2, x, y, e2⟩ := P2
  exact ⟨ns2, a2, r2, x, y, by rw [e2, e, List.set_set]⟩
theorem PenTo.refl {p : Nat} {h : Hh} {b : Int} (P : Pen p h b) : PenTo p h b h := by
  obtain ⟨ns, a, r, e, h1, h2⟩ := P
  refine ⟨ns, a, r, h1, h2, ?_⟩
  refine (List.ext_getElem? fun i => ?_)
  by_cases q : i = p
  · subst q
    rw [List.getElem?_set_self (List.getElem?_eq_some_iff.mp e).1, e]
  · rw [List.getElem?_set_ne (fun z => q z.symm)]
theorem PenTo.app {p : Nat} {h js h' : Hh} {b : Int} (hp : p < h.length) (P : PenTo p (h ++ js) b h') : ∃ h1, h' = h1 ++ js ∧ PenTo p h b h1 := by
  obtain ⟨ns, a, r, h1, h2, e⟩ := P
  exact ⟨h.set p (penO ns a r), by rw [e, List.set_append_left _ _ hp], ns, a, r, h1, h2, rfl⟩
/-- the pen moved on, new objects js behind -/
def At (p : Nat) (h : Hh) (b : Int) (js h' : Hh) : Prop := ∃ h1, h' = h1 ++ js ∧ PenTo p h b h1
theorem At.start {p : Nat} {h : Hh} {b : Int} (P : Pen p h b) : At p h b [] h := ⟨h, by simp, .refl P⟩
section
variable {p : Nat} {h js h' h2 : Hh} {b c b0 : Int}
theorem At.pen (P : Pen p h b0) (A : At p h b js h') : Pen p h' b := by
  obtain ⟨h1, rfl, T⟩ := A
  have := T.pen P.lt
  obtain ⟨ns, a, r, e, x, y⟩ := this
  exact ⟨ns, a, r, by rw [List.getElem?_append_left (by rw [T.len]; exact P.lt)]; exact e, x, y⟩
theorem At.step (P : Pen p h b0) (A : At p h b js h') (B : PenTo p h' c h2) : At p h c js h2 := by
  obtain ⟨h1, rfl, T⟩ := A
  obtain ⟨h3, rfl, T2⟩ := B.app (by rw [T.len]; exact P.lt)
  exact ⟨h3, rfl, T.trans T2⟩
theorem At.alloc {o : AO} (A : At p h b js h') : At p h b (js ++ [o]) (h' ++ [o]) := by
  obtain ⟨h1, rfl, T⟩ := A
  exact ⟨h1, by rw [List.append_assoc], T⟩
theorem At.len (A : At p h b js h') : h'.length = h.length + js.length := by
  obtain ⟨h1, rfl, T⟩ := A
  rw [List.length_append, T.len]
theorem At.look (A : At p h b js h') (k : Nat) : h'[h.length + k]? = js[k]? := by
  obtain ⟨h1, rfl, T⟩ := A
  rw [List.getElem?_append_right (by rw [T.len]; omega), T.len]
  congr 1
  omega
theorem At.old (A : At p h b js h') {i : Nat} (hi : i < h.length) (ne : i ≠ p) : h'[i]? = h[i]? := by
  obtain ⟨h1, rfl, T⟩ := A
  rw [List.getElem?_append_left (by rw [T.len]; exact hi), T.get ne]
theorem At.set {o : AO} (A : At p h b js h') (k : Nat) : At p h b (js.set k o) (h'.set (h.length + k) o) := by
  obtain ⟨h1, rfl, T⟩ := A
  refine ⟨h1, ?_, T⟩
  rw [List.set_append_right _ _ (by rw [T.len]; omega), T.len]
  congr 2
  omega
theorem At.mono (A : At p h b js h') (le : b ≤ c) : At p h c js h' := by
  obtain ⟨h1, e, T⟩ := A
  exact ⟨h1, e, T.mono le⟩
theorem At.fin {F : Fn} {ds : List D} {Q : D → Prop} (w : WR (F ds h) fun d h' => ∃ js, At p h b js h' ∧ ∃ d2, norm h' h.length [] 12 d = some d2 ∧ Q d2) : WR (gcF (fun _ => []) F ds h) fun d h' => PenTo p h b h' ∧ Q d := by
  refine wr_gc (w.mono ?_)
  rintro d h' ⟨js, ⟨h1, rfl, T⟩, d2, n, q⟩
  refine ⟨gcC_app T.len fun i o e => T.old e, d2, n, ?_, q⟩
  rw [take_app T.len]
  exact T
end
/-- a function that draws at most c times -/
def Drw (F : Fn) (c : Int) (args : List D) (Q : D → Prop) : Prop := ∀ p h b, Pen p h b → b + c < 10 ^ 30 → WR (F (.ref p :: args) h) fun v h' => PenTo p h (b + c) h' ∧ Q v
theorem Drw.at {F : Fn} {c b0 b : Int} {args : List D} {Q : D → Prop} {p : Nat} {h js h' : Hh} (D : Drw F c args Q) (P : Pen p h b0) (A : At p h b js h') (hb : b + c < 10 ^ 30) {K : DL.D → Hh → Prop} (k : ∀ v h2, At p h (b + c) js h2 → Q v → K v h2) : WR (F (.ref p :: args) h') K :=
  (D p h' b (A.pen P) hb).mono fun v h2 ⟨T, q⟩ => k v h2 (A.step P T) q

end
section
open PySem PySem.Spec PyProof.Rows L2
theorem small_le {i : Int} (b : i.natAbs < 2 ^ 4096) : small i = true := small_of b
theorem big_pow : (10 : Nat) ^ 100 < 2 ^ 4096 := by decide +kernel
theorem small_nn {i : Int} (a : 0 ≤ i) (b : i < 10 ^ 100) : small i = true := small_of (Nat.lt_trans (by omega : i.natAbs < 10 ^ 100) big_pow)
theorem div_int {i j : Int} {h : Hh} (hj : 0 < j) (hs : j < 10 ^ 100) : oDiv (.int i) (.int j) h = some (.int (i / j)) := by simp [oDiv, hj, small_nn (by omega) hs]
theorem mul_int {i j : Int} {h : Hh} (hi : 0 ≤ i) (hi2 : i < 10 ^ 100) (hj : 0 ≤ j) (hs : j < 10 ^ 100) : oMul (.int i) (.int j) h = some (.int (i * j)) := by simp [oMul, small_nn hi hi2, small_nn hj hs]
theorem bInt_int {i : Int} {h : Hh} : bInt [.int i] h = some (.int i, h) := rfl
theorem gsb_ok {fo fi : Env' → Hh → Rs D} {de : Env'} {h h1 h2 h3 : Hh} {d y v : D} (e1 : fo de h = .ok d h1) (e2 : fi de h1 = .ok y h2) (e3 : setIt d y v h2 = some h3) : gSb fo fi v de h = some (de, h3) := by simp [gSb, e1, e2, e3]
theorem at_ints {ns : List Int} {i : Int} {h : Hh} (a : 0 ≤ i) (b : i < ns.length) : ∃ c, oIt (.lst (ns.map .int)) (.int i) h = some (.int c) := by
  obtain ⟨j, rfl⟩ : ∃ j : Nat, i = j := ⟨i.toNat, by omega⟩
  have hj : j < ns.length := by omega
  exact ⟨ns[j], atI_nat (by rw [List.getElem?_map, List.getElem?_eq_getElem hj]; rfl)⟩
/-- what a draw does -/
def DrawR (p : Nat) (h : Hh) (b m : Int) (v : D) (h' : Hh) : Prop := ∃ i ns a r, v = .int i ∧ 0 ≤ i ∧ i < m ∧ 0 ≤ a ∧ a ≤ b ∧ h' = h.set p (penO ns a r)
def Draws (n : Nat) (F : Fn) : Prop := ∀ p h b m, Pen p h b → b + n < 10 ^ 30 → 0 < m → m < 10 ^ (7 * n) → WR (F [.ref p, .int m] h) (DrawR p h (b + n) m)
theorem drawS {n : Nat} {F : Fn} (hn : n < 8) (d : Draws n F) : Draws (n + 1) (runB 4 (k__law_draw F)) := by
  intro p h b m ⟨ns, a, r, e, ha, hb⟩ hB h1 h2
  have h3 : m < 10 ^ 100 := by
    have : (10 : Int) ^ (7 * (n + 1)) ≤ 10 ^ (7 * 8) := by exact_mod_cast Nat.pow_le_pow_right (by decide) (by omega)
    omega
  rw [w_run]
  unfold k__law_draw
  walk_at "DL.W"
  refine ⟨_, it_rest e, ?_⟩
  walk_at "DL.W"
  refine ⟨_, rfl, _, rfl, fun q => ?_, fun q => ?_⟩
  · walk_at "DL.W"
    refine ⟨_, it_rest e, ?_⟩
    walk_at "DL.W"
    refine ⟨_, _, bInt_int, ?_⟩
    walk_at "DL.W"
    refine ⟨_, mod_int h1, ?_⟩
    walk_at "DL.W"
    refine ⟨_, it_rest e, ?_⟩
    walk_at "DL.W"
    refine ⟨_, div_int h1 h3, ?_⟩
    refine ⟨_, _, gsb_ok rfl rfl (set_rest e), ?_⟩
    walk_at "DL.W"
    exact ⟨_, _, _, _, rfl, Int.emod_nonneg _ (by omega), Int.emod_lt_of_pos _ h1, ha, by omega, rfl⟩
  · walk_at "DL.W"
    refine ⟨_, it_at e, ?_⟩
    walk_at "DL.W"
    refine ⟨_, rfl, ?_⟩
    refine ⟨_, _, gsb_ok rfl rfl (set_at e), ?_⟩
    obtain ⟨h', hh⟩ : ∃ h', h' = h.set p (penO ns (a + 1) r) := ⟨_, rfl⟩
    rw [← hh]
    have e2 : h'[p]? = some (penO ns (a + 1) r) := by rw [hh]; exact get_set e
    refine Eq.mpr w_seq ?_
    walk_at "DL.V"
    refine ⟨_, mul_int (by decide) (by decide) ha (by omega), ?_⟩
    walk_at "DL.V"
    refine ⟨_, rfl, ?_⟩
    walk_at "DL.V"
    refine Eq.mpr w_seq (WS.mono (N := fun de2 h2 => ∃ c : Int, de2 = [some (.ref p), some (.int m), none, some (.int a), some (.int c), none] ∧ h2 = h') (R := fun _ _ => False) ?_ ?_ (fun _ _ => False.elim))
    · walk_at "DL.W"
      refine ⟨_, it_cells e2, ?_⟩
      walk_at "DL.W"
      refine ⟨rfl, ?_⟩
      refine ⟨_, ne_nil, _, rfl, fun q => ?_, fun q => ?_⟩
      · have hl : 0 < ns.length := by
          cases ns with
          | nil => cases q
          | cons _ _ => simp
        walk_at "DL.W"
        refine ⟨_, it_cells e2, ?_⟩
        walk_at "DL.W"
        refine ⟨_, _, bInt_int, ?_⟩
        walk_at "DL.W"
        refine ⟨_, it_cells e2, ?_⟩
        walk_at "DL.W"
        refine ⟨_, _, rfl, ?_⟩
        refine ⟨_, mod_int (by simp; omega), ?_⟩
        obtain ⟨c, hc⟩ := at_ints (ns := ns) (i := a % ((ns.map D.int).length : Int)) (Int.emod_nonneg _ (by rw [List.length_map]; omega)) (by simpa using Int.emod_lt_of_pos a (by omega : (0 : Int) < ns.length))
        refine ⟨_, hc, ?_⟩
        exact ⟨c, rfl, rfl⟩
      · walk_at "DL.W"
        exact ⟨_, rfl, rfl⟩
    rintro _ _ ⟨c, rfl, rfl⟩
    refine Eq.mpr w_seq (WS.mono (N := fun de2 h2 => de2 = [some (.ref p), some (.int m), none, some (.int a), some (.int c), none] ∧ h2 = List.set h p (penO ns (a + 1) r)) (R := DrawR p h (b + (n + 1 : Nat)) m) ?_ ?_ (fun _ _ z => z))
    · walk_at "DL.W"
      refine ⟨_, it_cells e2, ?_⟩
      walk_at "DL.W"
      refine ⟨_, _, rfl, _, rfl, _, rfl, fun q => ?_, fun q => ?_⟩
      · walk_at "DL.W"
        refine ⟨_, _, rfl, ?_⟩
        walk_at "DL.W"
        refine ⟨_, rfl, _, rfl, _, rfl, fun q => ?_, fun q => ?_⟩
        · walk_at "DL.W"
          refine ⟨_, _, rfl, ?_⟩
          walk_at "DL.W"
          refine ⟨_, rfl, _, rfl, ?_⟩
          walk_at "DL.W"
          refine ⟨_, div_int h1 h3, ?_⟩
          refine ⟨_, _, gsb_ok rfl rfl (set_rest e2), ?_⟩
          walk_at "DL.W"
          refine ⟨_, _, rfl, ?_⟩
          walk_at "DL.W"
          refine ⟨_, rfl, _, rfl, ?_⟩
          walk_at "DL.W"
          refine ⟨_, mod_int h1, ?_⟩
          exact ⟨_, ns, a + 1, _, rfl, Int.emod_nonneg _ (by omega), Int.emod_lt_of_pos _ h1, by omega, by omega, by rw [hh, List.set_set]⟩
        · walk_at "DL.W"
          exact ⟨rfl, hh⟩
      · refine ⟨fun z => (nomatch z), fun _ => ?_⟩
        walk_at "DL.W"
        exact ⟨rfl, hh⟩
    rintro _ _ ⟨rfl, rfl⟩
    have ha2 : a < 10 ^ 31 := by omega
    have haa : a * a < 10 ^ 62 := by
      have : a * a ≤ (10 ^ 31) * (10 ^ 31) := Int.mul_le_mul (by omega) (by omega) ha (by decide)
      have h0 : (0 : Int) ≤ a * a := Int.mul_nonneg ha ha
      have : a * a ≤ 10 ^ 30 * 10 ^ 30 := Int.mul_le_mul (by omega) (by omega) ha (by decide)
      omega
    refine Eq.mpr w_seq ?_
    walk_at "DL.V"
    refine ⟨_, _, bInt_int, ?_⟩
    refine ⟨_, mod_int (by decide), ?_⟩
    refine ⟨_, mul_int (Int.emod_nonneg _ (by decide)) (by have := Int.emod_lt_of_pos c (by decide : (0 : Int) < 2147483587); omega) (by decide) (by decide), ?_⟩
    walk_at "DL.V"
    refine ⟨_, mul_int (by decide) (by decide) ha (by omega), ?_⟩
    walk_at "DL.V"
    refine ⟨_, mul_int (by omega) (by omega) ha (by omega), ?_⟩
    refine ⟨_, rfl, ?_⟩
    walk_at "DL.V"
    refine ⟨_, mul_int (by decide) (by decide) ha (by omega), ?_⟩
    refine ⟨_, rfl, ?_⟩
    walk_at "DL.V"
    refine ⟨_, rfl, ?_⟩
    walk_at "DL.V"
    refine ⟨_, _, bInt_int, ?_⟩
    walk_at "DL.V"
    refine ⟨_, mod_int (by decide), ?_⟩
    have x1 : 0 ≤ (c % 2147483587 * 48271 + 50021 * a * a + 31 * a + 17) % 2147483629 := Int.emod_nonneg _ (by decide)
    have x2 : (c % 2147483587 * 48271 + 50021 * a * a + 31 * a + 17) % 2147483629 < 2147483629 := Int.emod_lt_of_pos _ (by decide)
    generalize (c % 2147483587 * 48271 + 50021 * a * a + 31 * a + 17) % 2147483629 = x at x1 x2
    refine Eq.mpr w_seq ?_
    walk_at "DL.V"
    refine ⟨_, rfl, ?_⟩
    refine ⟨_, mul_int x1 (by omega) (by omega) (by omega), ?_⟩
    walk_at "DL.V"
    refine ⟨_, _, bInt_int, ?_⟩
    walk_at "DL.V"
    refine ⟨_, mod_int (by decide), ?_⟩
    have y1 : 0 ≤ x * (x + 69621) % 2147483579 := Int.emod_nonneg _ (by decide)
    have y2 : x * (x + 69621) % 2147483579 < 2147483579 := Int.emod_lt_of_pos _ (by decide)
    generalize x * (x + 69621) % 2147483579 = y at y1 y2
    refine Eq.mpr w_seq ?_
    walk_at "DL.V"
    refine ⟨_, mul_int y1 (by omega) y1 (by omega), ?_⟩
    walk_at "DL.V"
    refine ⟨_, _, bInt_int, ?_⟩
    walk_at "DL.V"
    refine ⟨_, mod_int (by decide), ?_⟩
    walk_at "DL.V"
    refine ⟨_, div_int (by decide) (by decide), ?_⟩
    generalize y * y % 2147483549 / 32 = z
    refine Eq.mpr w_seq (WS.mono (N := fun de2 h2 => ∃ c2 : Int, de2 = [some (.ref p), some (.int m), none, some (.int a), some (.int c), some (.int c2)] ∧ ∃ ns a2 r, 0 ≤ a2 ∧ a2 ≤ b + (n + 1 : Nat) ∧ h2 = List.set h p (penO ns a2 r)) (R := DrawR p h (b + (n + 1 : Nat)) m) ?_ ?_ (fun _ _ z => z))
    · walk_at "DL.W"
      refine ⟨_, rfl, _, rfl, fun q => ?_, fun q => ?_⟩
      · have q2 : 60000000 < m := of_decide_eq_true q
        walk_at "DL.W"
        refine ⟨_, div_int (by decide) (by decide), ?_⟩
        walk_at "DL.W"
        refine ⟨_, rfl, ?_⟩
        have hm1 : 0 ≤ m / 60000000 := Int.ediv_nonneg (by omega) (by decide)
        have hm2 : m / 60000000 + 1 < 10 ^ (7 * n) := by
          cases n with
          | zero => 
            have : (10 : Int) ^ (7 * (0 + 1)) = 10000000 := by decide
            omega
          | succ n => 
            have e1 : (10 : Int) ^ (7 * (n + 1 + 1)) = 10 ^ (7 * (n + 1)) * 10000000 := by
              rw [show 7 * (n + 1 + 1) = 7 * (n + 1) + 7 by omega, Int.pow_add]; rfl
            have e2 : (10 : Int) ^ (7 * (n + 1)) = 10 ^ (7 * n) * 10000000 := by
              rw [show 7 * (n + 1) = 7 * n + 7 by omega, Int.pow_add]; rfl
            have e3 : (0 : Int) < 10 ^ (7 * n) := Int.pow_pos (by decide)
            omega
        refine (d p _ (b + 1) _ ⟨ns, a + 1, r, hh ▸ e2, by omega, by omega⟩ (by omega) (by omega) hm2).mono ?_
        rintro _ _ ⟨i, ns2, a2, r2, rfl, i1, i2, a3, a4, rfl⟩
        have hm3 : m / 60000000 ≤ m := Int.ediv_le_self _ (by omega)
        refine ⟨_, mul_int (by decide) (by decide) i1 (by omega), ?_⟩
        refine ⟨_, rfl, ?_⟩
        exact ⟨_, rfl, ns2, a2, r2, a3, by omega, by rw [List.set_set]⟩
      · walk_at "DL.W"
        exact ⟨_, rfl, ns, a + 1, r, by omega, by omega, rfl⟩
    rintro _ _ ⟨c2, rfl, ns2, a2, r2, a3, a4, rfl⟩
    walk_at "DL.W"
    refine ⟨_, _, bInt_int, ?_⟩
    refine ⟨_, mod_int h1, ?_⟩
    exact ⟨_, _, _, _, rfl, Int.emod_nonneg _ (by omega), Int.emod_lt_of_pos _ h1, a3, a4, rfl⟩
theorem draw_gc {n : Nat} {F : Fn} (d : Draws n F) : Draws n (lenI 2 (gcF (fun _ => []) F)) := by
  intro p h b m P hb h1 h2
  rw [w_len]
  refine ⟨rfl, ?_⟩
  have w : WR (gcF (fun _ => []) F [.ref p, .int m] h) fun d h' => PenTo p h (b + n) h' ∧ ∃ i, d = .int i ∧ 0 ≤ i ∧ i < m := by
    refine At.fin ((d p h b m P hb h1 h2).mono ?_)
    rintro _ _ ⟨i, ns, a, r, rfl, i1, i2, a1, a2, rfl⟩
    exact ⟨[], ⟨_, by simp, ns, a, r, a1, a2, rfl⟩, .int i, rfl, i, rfl, i1, i2⟩
  refine w.mono ?_
  rintro _ _ ⟨⟨ns, a, r, a1, a2, e⟩, i, rfl, i1, i2⟩
  exact ⟨i, ns, a, r, rfl, i1, i2, a1, a2, e⟩
theorem draw_ok : ∀ n, n ≤ 8 → Draws n (s__law_draw_n n)
  | 0, _ => fun p h b m _ _ h1 h2 => absurd h2 (by simp; omega)
  | n + 1, hn => draw_gc (drawS (by omega) (draw_ok n (by omega)))
/-- a draw below m -/
theorem drw_draw {m : Int} (h1 : 0 < m) (h2 : m < 10 ^ 40) : Drw (s__law_draw) 6 [.int m] fun v => ∃ i, v = .int i ∧ 0 ≤ i ∧ i < m := fun p h b P hb => by
  have e42 : (10 : Int) ^ (7 * 6) = 10 ^ 40 * 100 := by decide
  refine (draw_ok 6 (by decide) p h b m P (by omega) h1 (by omega)).mono ?_
  rintro v h' ⟨i, ns, a, r, e, i1, i2, a1, a2, eh⟩
  exact ⟨⟨ns, a, r, a1, a2, eh⟩, i, e, i1, i2⟩

end
section
open PySem PySem.Spec PyProof.Rows L2
/-! ### data -/
def datOk : Nat → D → Bool
  | _, .non => true
  | _, .bl _ => true
  | _, .int _ => true
  | _, .str x => PyData.strOk x
  | n + 1, .tup xs => xs.all (datOk n)
  | n + 1, .lst xs => xs.all (datOk n)
  | _, _ => false
theorem dpL_ok {k : D → Option PyData} : ∀ {xs : List D}, (∀ x ∈ xs, ∃ q, k x = some q ∧ q.canLay0 = true) → ∃ qs, dpL k xs = some qs ∧ PyData.canLayAll0 qs = true ∧ qs.length = xs.length
  | [], _ => ⟨[], rfl, by simp [PyData.canLayAll0], rfl⟩
  | x :: xs, h => by
    obtain ⟨q, e, l⟩ := h x List.mem_cons_self
    obtain ⟨qs, e2, l2, l3⟩ := dpL_ok fun y hy => h y (List.mem_cons_of_mem _ hy)
    exact ⟨q :: qs, by simp [dpL, e, e2], by simp [PyData.canLayAll0, l, l2], by simp [l3]⟩
theorem dat_ok (h : Hh) : ∀ (k n : Nat) (d : D), k ≤ n → datOk k d = true → ∃ q, dp h n d = some q ∧ q.canLay0 = true := by
  intro k
  induction k with
  | zero =>
    intro n d hn e
    cases d with
    | non => exact ⟨.none, by cases n <;> rfl, by simp [PyData.canLay0]⟩
    | bl b => exact ⟨.bool b, by cases n <;> rfl, by simp [PyData.canLay0]⟩
    | int b => exact ⟨.int b, by cases n <;> rfl, by simp [PyData.canLay0]⟩
    | str b => exact ⟨.str b, by cases n <;> rfl, by simp only [PyData.canLay0]; exact e⟩
    | _ => cases e
  | succ k ih =>
    intro n d hn e
    obtain ⟨n, rfl⟩ : ∃ j, n = j + 1 := ⟨n - 1, by omega⟩
    cases d with
    | non => exact ⟨.none, rfl, by simp [PyData.canLay0]⟩
    | bl b => exact ⟨.bool b, rfl, by simp [PyData.canLay0]⟩
    | int b => exact ⟨.int b, rfl, by simp [PyData.canLay0]⟩
    | str b => exact ⟨.str b, rfl, by simp only [PyData.canLay0]; exact e⟩
    | tup xs =>
      have e' : xs.all (datOk k) = true := e
      obtain ⟨qs, e2, l, _⟩ := dpL_ok (k := dp h n) fun x hx => ih n x (by omega) (List.all_eq_true.mp e' x hx)
      exact ⟨.tuple qs, by show (match dpL (dp h n) xs with | some ps => some (PyData.tuple ps) | none => none) = _; rw [e2], by simpa [PyData.canLay0] using l⟩
    | lst xs =>
      have e' : xs.all (datOk k) = true := e
      obtain ⟨qs, e2, l, _⟩ := dpL_ok (k := dp h n) fun x hx => ih n x (by omega) (List.all_eq_true.mp e' x hx)
      exact ⟨.list qs, by show (match dpL (dp h n) xs with | some ps => some (PyData.list ps) | none => none) = _; rw [e2], by simpa [PyData.canLay0] using l⟩
    | _ => cases e
theorem dp_lst {h : Hh} {d : D} {xs : List D} (e : lstOf h d = some xs) (hd : ∀ x ∈ xs, datOk 11 x = true) : ∃ qs, dp h 12 d = some (.list qs) ∧ PyData.canLayAll0 qs = true ∧ qs.length = xs.length := by
  obtain ⟨qs, e2, l, l2⟩ := dpL_ok (k := dp h 11) fun x hx => dat_ok h 11 11 x (Nat.le_refl _) (hd x hx)
  refine ⟨qs, ?_, l, l2⟩
  cases d with
  | lst ys =>
    cases e
    show (match dpL (dp h 11) xs with | some ps => some (PyData.list ps) | none => none) = _
    rw [e2]
  | ref i =>
    show (match lstOf h (.ref i) with
      | some xs => (match dpL (dp h 11) xs with
        | some ps => some (PyData.list ps)
        | none => none)
      | none => none) = _
    rw [e]
    simp only [e2]
  | _ => cases e
/-- a list against the empty one -/
theorem ne_empty {h : Hh} {d : D} {xs : List D} (e : lstOf h d = some xs) (hd : ∀ x ∈ xs, datOk 11 x = true) : oNeC d (.lst []) h = some (.bl (!xs.isEmpty)) := by
  obtain ⟨qs, e2, l, l2⟩ := dp_lst e hd
  have e3 : dp h 12 (.lst []) = some (.list []) := rfl
  have e4 : eqD h d (.lst []) = some xs.isEmpty := by
    unfold eqD
    rw [e2, e3]
    cases qs with
    | nil =>
      cases xs with
      | nil => simp [PyData.canLay0, PyData.canLayAll0, PyData.eqv, PyData.eqvAll]
      | cons _ _ => simp at l2
    | cons q qs =>
      cases xs with
      | nil => simp at l2
      | cons _ _ => simp [PyData.canLay0, PyData.canLayAll0, PyData.eqv, PyData.eqvAll] at l ⊢; exact l
  unfold oNeC
  rw [e4]
theorem atI_in {α : Type} {xs : List α} {i : Int} (a : 0 ≤ i) (b : i < xs.length) : ∃ x, atI xs i = some x ∧ x ∈ xs := by
  obtain ⟨j, rfl⟩ : ∃ j : Nat, i = j := ⟨i.toNat, by omega⟩
  have hj : j < xs.length := by omega
  exact ⟨xs[j], atI_nat (List.getElem?_eq_getElem hj), List.getElem_mem hj⟩
/-! ### pick -/
theorem drw_pick {xs : List D} (h0 : 0 < xs.length) (hl : xs.length ≤ 1000) (hf : ∀ x ∈ xs, flatN 0 12 x = true) : Drw s__law_pick 6 [.lst xs] fun v => v ∈ xs := by
  intro p h b P hb
  unfold s__law_pick
  rw [w_len]
  refine ⟨rfl, ?_⟩
  refine At.fin ?_
  rw [w_run]
  unfold k__law_pick
  walk_at "DL.S"
  refine (drw_draw (by omega) (by omega)).at P (At.start P) (by omega) ?_
  rintro _ h2 A ⟨i, rfl, i1, i2⟩
  obtain ⟨x, e, hm⟩ := atI_in i1 i2
  exact ⟨x, e, [], A, x, norm_flat (Nat.zero_le _) (hf x hm), hm⟩
theorem drw_pickS {z : Str} (h0 : 0 < z.length) (hl : lim z.length = true) : Drw s__law_pick 6 [.str z] fun v => ∃ c ∈ z.cps.toList, v = .str ⟨#[c]⟩ := by
  have hl2 := lim_le hl
  rw [sizeLine_eq] at hl2
  intro p h b P hb
  unfold s__law_pick
  rw [w_len]
  refine ⟨rfl, ?_⟩
  refine At.fin ?_
  rw [w_run]
  unfold k__law_pick
  walk_at "DL.W"
  refine ⟨.int z.length, h, by show (if lim z.length then some (D.int z.length, h) else none) = _; rw [if_pos hl], ?_⟩
  refine (drw_draw (by omega) (by omega)).at P (At.start P) (by omega) ?_
  rintro _ h2 A ⟨i, rfl, i1, i2⟩
  obtain ⟨x, e, hm⟩ := atI_in (xs := z.cps.toList) i1 (by simpa [Str.length] using i2)
  exact ⟨_, by show (if lim z.length then (atI z.cps.toList i).map fun c => D.str ⟨#[c]⟩ else none) = _; rw [if_pos hl, e]; rfl, [], A, _, rfl, x, hm, rfl⟩
/-! ### shuffled -/
theorem perm_erase {α : Type} {y : α} : ∀ {rest : List α} {k : Nat}, rest[k]? = some y → (y :: rest.eraseIdx k).Perm rest
  | [], k, e => by simp at e
  | x :: r, 0, e => by
    have : x = y := by simpa using e
    subst this
    exact .refl _
  | x :: r, k + 1, e => (List.Perm.swap x y _).trans (.cons x (perm_erase (by simpa using e)))
theorem live_at {h : Hh} {i : Nat} {xs : List D} (e : h[i]? = some (.lst xs)) : liveL h (.ref i) = some (i, xs) := by simp [liveL, e]
theorem lst_at {h : Hh} {i : Nat} {xs : List D} (e : h[i]? = some (.lst xs)) : lstOf h (.ref i) = some xs := by simp [lstOf, e]
theorem isL_at {h : Hh} {i : Nat} {xs : List D} (e : h[i]? = some (.lst xs)) : isL h (.ref i) = true := by simp [isL, lst_at e]
theorem len_at {h : Hh} {i : Nat} {xs : List D} (e : h[i]? = some (.lst xs)) : bLen [.ref i] h = some (.int xs.length, h) := by simp [bLen, seqOf, lst_at e]
theorem app_at {h : Hh} {i : Nat} {xs : List D} {y : D} (e : h[i]? = some (.lst xs)) (hl : xs.length < 16777216) : mAppend (.ref i) [y] h = some (.non, h.set i (.lst (xs ++ [y]))) := by
  simp [mAppend, live_at e, lim_of (show xs.length + 1 ≤ 16777216 by omega)]
theorem pop_at {h : Hh} {i : Nat} {xs : List D} {j : Int} (e : h[i]? = some (.lst xs)) (hl : xs.length < 16777216) (h1 : 0 ≤ j) (h2 : j < xs.length) : ∃ y, mPop (.ref i) [.int j] h = some (y, h.set i (.lst (xs.eraseIdx j.toNat))) ∧ xs[j.toNat]? = some y := by
  have hj : j.toNat < xs.length := by omega
  refine ⟨xs[j.toNat], ?_, List.getElem?_eq_getElem hj⟩
  have e1 : ixN xs.length j = some j.toNat := by unfold ixN; rw [if_pos h1, if_pos h2]
  simp only [mPop, live_at e, Option.bind_some, e1, lim_of (show xs.length ≤ 16777216 by omega), if_true, List.getElem?_eq_getElem hj, Option.map_some]
theorem drw_shuffled {xs : List D} (hl : xs.length ≤ 40) (hf : ∀ x ∈ xs, flatN 0 11 x = true) (hd : ∀ x ∈ xs, datOk 11 x = true) : Drw s__law_shuffled 240 [.lst xs] fun v => ∃ ys, v = .lst ys ∧ ys.Perm xs := by
  intro p h b P hb
  unfold s__law_shuffled
  rw [w_len]
  refine ⟨rfl, ?_⟩
  refine At.fin ?_
  rw [w_run]
  unfold k__law_shuffled
  walk_at "DL.S"
  refine w_while (fun m de h' => ∃ rest found, rest.length = m ∧ (found ++ rest).Perm xs ∧ de = [some (.ref p), some (.lst xs), some (.ref h.length), some (.ref (h.length + 1))] ∧ At p h (b + 6 * (xs.length - m : Int)) [.lst rest, .lst found] h') ?_ _ xs.length _ _ (by omega) ⟨xs, [], rfl, .refl _, ?_, ?_⟩
  · rintro m de h' ⟨rest, found, rfl, pm, rfl, A⟩
    have l0 := A.look 0
    have l1 := A.look 1
    have lp := pm.length_eq
    rw [List.length_append] at lp
    walk_at "DL.S"
    refine ⟨_, ne_empty (lst_at l0) (fun x hx => hd x (pm.mem_iff.mp (List.mem_append_right _ hx))), _, rfl, fun q => ?_, fun q => ?_⟩
    · have hr : 0 < rest.length := by
        cases rest with
        | nil => cases q
        | cons _ _ => simp
      walk_at "DL.S"
      refine ⟨isL_at l1, ?_⟩
      walk_at "DL.S"
      refine ⟨isL_at l0, ?_⟩
      walk_at "DL.S"
      refine ⟨_, _, len_at l0, ?_⟩
      refine (drw_draw (by omega) (by omega)).at P A (by omega) ?_
      rintro _ h2 A2 ⟨i, rfl, i1, i2⟩
      have l2 := A2.look 0
      obtain ⟨y, e, ey⟩ := pop_at l2 (by omega) i1 i2
      refine ⟨y, _, e, ?_⟩
      have A3 := A2.set (o := .lst (rest.eraseIdx i.toNat)) 0
      have l3 := A3.look 1
      refine ⟨_, _, app_at l3 (by omega), ?_⟩
      have A4 := A3.set (o := .lst (found ++ [y])) 1
      have hi : i.toNat < rest.length := by omega
      have el : (rest.eraseIdx i.toNat).length = rest.length - 1 := by rw [List.length_eraseIdx_of_lt hi]
      refine ⟨rest.length - 1, by omega, rest.eraseIdx i.toNat, found ++ [y], el, ?_, rfl, A4.mono (by omega)⟩
      rw [List.append_assoc]
      exact ((perm_erase ey).append_left found).trans pm
    · have hr : rest = [] := by
        cases rest with
        | nil => rfl
        | cons _ _ => cases q
      subst hr
      rw [List.append_nil] at pm
      walk_at "DL.S"
      refine ⟨_, A.mono (by omega), _, norm_lst (Nat.zero_le _) (by omega) l1 (List.all_eq_true.mpr fun x hx => hf x (pm.mem_iff.mp hx)), found, rfl, pm⟩
  · rw [List.length_append]
    rfl
  · exact (((At.start P).alloc (o := .lst xs)).alloc (o := .lst [])).mono (by omega)

end
section
open PySem PySem.Spec PyProof.Rows L2
open SX (S S_len S_cat S_inj)
/-! ### loops by the number of turns -/
section
variable {h : Hh} {de : Env'} {N : Env' → Hh → Prop} {R : D → Hh → Prop} {kf : Env' → Hh → Sr} {s : Src} {ks : List Nat} {QL : List D → Hh → Prop}
theorem w_loopI {G : GD} {xs : List D} (I : Nat → Env' → Hh → Prop) (hs : ∀ k de h, I k de h → s.ok h)
    (step : ∀ k x de h, xs[k]? = some x → I k de h → ∃ de1 h1, G x de h = some (de1, h1) ∧ WS (kf de1 h1) (fun de2 h2 => I (k + 1) (kill de2 ks) h2) R)
    (fin : ∀ de h, I xs.length de h → N de h) (i0 : I 0 de h) : WS (loopS s G kf ks xs de h) N R := by
  refine w_loop (fun r de h => ∃ k, k ≤ xs.length ∧ xs.drop k = r ∧ I k de h) (fun _ _ _ ⟨k, _, _, i⟩ => hs k _ _ i) ?_ ?_ xs de h ⟨0, Nat.zero_le _, rfl, i0⟩
  · rintro x r de h ⟨k, hk, e, i⟩
    obtain ⟨e1, e2, e3⟩ := drop_cons e
    obtain ⟨de1, h1, g, w⟩ := step k x de h e1 i
    exact ⟨de1, h1, g, w.mono (fun de2 h2 i2 => ⟨k + 1, e3, e2, i2⟩) fun _ _ z => z⟩
  · rintro de h ⟨k, hk, e, i⟩
    have : k = xs.length := by
      have := congrArg List.length e
      rw [List.length_drop] at this
      simp at this
      omega
    subst this
    exact fin _ _ i
theorem w_compI {F : GD} {t : Env' → Hh → Rs Bool} {f : Env' → Hh → Rs D} {xs : List D} (I : Nat → List D → Hh → Prop) (hs : ∀ k acc h, I k acc h → s.ok h)
    (step : ∀ k x acc h, xs[k]? = some x → I k acc h → ∃ de1 h1, F x de h = some (de1, h1) ∧ WR (t de1 h1) fun p h2 => (p = true → WR (f de1 h2) fun y h3 => I (k + 1) (acc ++ [y]) h3) ∧ (p = false → I (k + 1) acc h2))
    (fin : ∀ acc h, I xs.length acc h → QL acc h) (i0 : I 0 [] h) : WR (compL s F t f de xs [] h) QL := by
  refine w_comp (fun r acc h => ∃ k, k ≤ xs.length ∧ xs.drop k = r ∧ I k acc h) (fun _ _ _ ⟨k, _, _, i⟩ => hs k _ _ i) ?_ ?_ xs [] h ⟨0, Nat.zero_le _, rfl, i0⟩
  · rintro x r acc h ⟨k, hk, e, i⟩
    obtain ⟨e1, e2, e3⟩ := drop_cons e
    obtain ⟨de1, h1, g, w⟩ := step k x acc h e1 i
    refine ⟨de1, h1, g, w.mono fun p h2 ⟨a, b⟩ => ⟨fun q => (a q).mono fun y h3 i2 => ⟨k + 1, e3, e2, i2⟩, fun q => ⟨k + 1, e3, e2, b q⟩⟩⟩
  · rintro acc h ⟨k, hk, e, i⟩
    have : k = xs.length := by
      have := congrArg List.length e
      rw [List.length_drop] at this
      simp at this
      omega
    subst this
    exact fin _ _ i
end
theorem ups_get {lo : Int} {n k : Nat} {x : D} (h : (ups lo n)[k]? = some x) : k < n ∧ x = .int (lo + k) := by
  unfold ups at h
  rw [List.getElem?_map] at h
  by_cases q : k < n
  · rw [List.getElem?_range q] at h
    exact ⟨q, (Option.some.inj h).symm⟩
  · rw [List.getElem?_eq_none (by simpa using Nat.le_of_not_lt q)] at h
    cases h
theorem ups_len {lo : Int} {n : Nat} : (ups lo n).length = n := by simp [ups]
theorem rng_ok {j : Int} (h0 : 0 ≤ j) (h1 : j ≤ 10000) : (lim j.toNat && decide (-4611686018427387904 ≤ j)) = true := by
  rw [Bool.and_eq_true]
  exact ⟨lim_of (by omega), decide_eq_true (by omega)⟩
/-! ### texts -/
theorem cutS_to (l : List Nat) {k : Int} (h0 : 0 ≤ k) : cutS (S l) none (some k) = S (l.take k.toNat) := by
  unfold cutS HT.sIx
  have e : (S l).cps.toList = l := by simp
  rw [S_len, e]
  simp only [if_neg (show ¬ k < 0 by omega), List.drop_zero, Nat.sub_zero]
  have : l.take (min k.toNat l.length) = l.take k.toNat := by
    rcases Nat.le_total k.toNat l.length with h | h
    · rw [Nat.min_eq_left h]
    · rw [Nat.min_eq_right h, List.take_length, List.take_of_length_le h]
  rw [this]
theorem cutS_from (l : List Nat) {k : Int} (h0 : 0 ≤ k) : cutS (S l) (some k) none = S (l.drop k.toNat) := by
  unfold cutS HT.sIx
  have e : (S l).cps.toList = l := by simp
  rw [S_len, e]
  simp only [if_neg (show ¬ k < 0 by omega)]
  have : (l.drop (min k.toNat l.length)).take (l.length - min k.toNat l.length) = l.drop k.toNat := by
    rw [List.take_of_length_le (by simp)]
    rcases Nat.le_total k.toNat l.length with h | h
    · rw [Nat.min_eq_left h]
    · rw [Nat.min_eq_right h, List.drop_length, List.drop_eq_nil_of_le h]
  rw [this]
theorem cutS_last (l : List Nat) (h0 : 0 < l.length) : cutS (S l) (some (-1)) none = S (l.drop (l.length - 1)) := by
  unfold cutS HT.sIx
  have e : (S l).cps.toList = l := by simp
  rw [S_len, e]
  simp only [if_pos (show (-1 : Int) < 0 by decide)]
  have : ((-1 : Int) + (l.length : Int)).toNat = l.length - 1 := by omega
  rw [this, List.take_of_length_le (by simp)]
theorem S_lim {l : List Nat} (h : l.length ≤ 1000) : lim (S l).length = true := lim_of (by rw [S_len]; omega)
theorem cut_to {l : List Nat} {k : Int} {h : Hh} (hl : l.length ≤ 1000) (h0 : 0 ≤ k) : oCut (.str (S l)) none (some k) h = some (.str (S (l.take k.toNat))) := by
  show (if lim (S l).length then some (D.str (cutS (S l) none (some k))) else none) = _
  rw [if_pos (S_lim hl), cutS_to l h0]
theorem cut_from {l : List Nat} {k : Int} {h : Hh} (hl : l.length ≤ 1000) (h0 : 0 ≤ k) : oCut (.str (S l)) (some k) none h = some (.str (S (l.drop k.toNat))) := by
  show (if lim (S l).length then some (D.str (cutS (S l) (some k) none)) else none) = _
  rw [if_pos (S_lim hl), cutS_from l h0]
theorem cut_last {l : List Nat} {h : Hh} (hl : l.length ≤ 1000) (h0 : 0 < l.length) : oCut (.str (S l)) (some (-1)) none h = some (.str (S (l.drop (l.length - 1)))) := by
  show (if lim (S l).length then some (D.str (cutS (S l) (some (-1)) none)) else none) = _
  rw [if_pos (S_lim hl), cutS_last l h0]
theorem cat_S {a b : List Nat} {h : Hh} (ha : a.length ≤ 1000) (hb : b.length ≤ 1000) : oAdd (.str (S a)) (.str (S b)) h = some (.str (S (a ++ b))) := by
  show (if lim ((S a).length + (S b).length) then some (D.str (S a ++ S b)) else none) = _
  rw [if_pos (lim_of (by rw [S_len, S_len]; omega)), S_cat]
theorem at_S {l : List Nat} {i : Int} {h : Hh} {c : Nat} (hl : l.length ≤ 1000) (e : atI l i = some c) : oIt (.str (S l)) (.int i) h = some (.str (S [c])) := by
  show (if lim (S l).length then ((atI (S l).cps.toList i).map fun c => D.str ⟨#[c]⟩) else none) = _
  rw [if_pos (S_lim hl), show (S l).cps.toList = l by simp, e]
  rfl
theorem len_S {l : List Nat} {h : Hh} (hl : l.length ≤ 1000) : bLen [.str (S l)] h = some (.int l.length, h) := by
  show (if lim (S l).length then some (D.int (S l).length, h) else none) = _
  rw [if_pos (S_lim hl), S_len]
theorem strs_S : ∀ ls : List (List Nat), strsOf (ls.map fun l => D.str (S l)) = some (ls.map S)
  | [] => rfl
  | l :: ls => by
    show (strsOf (ls.map fun l => D.str (S l))).map (S l :: ·) = _
    rw [strs_S ls]
    rfl
theorem joinL_one : ∀ cs : List Nat, TL.joinL [] (cs.map fun c => [c]) = cs
  | [] => rfl
  | [c] => rfl
  | c :: d :: r => by
    have := joinL_one (d :: r)
    show [c] ++ ([] ++ TL.joinL [] ([d] :: r.map fun c => [c])) = _
    rw [List.nil_append]
    rw [List.map_cons] at this
    rw [this]
    rfl
theorem lens_one : ∀ cs : List Nat, ((cs.map fun c => S [c]).map (·.length)).sum = cs.length
  | [] => rfl
  | c :: r => by
    rw [List.map_cons, List.map_cons, List.sum_cons, lens_one r, List.length_cons]
    show 1 + r.length = _
    omega
theorem join_one {cs : List Nat} {y : D} {h : Hh} (hy : seqOf h y = some (cs.map fun c => D.str (S [c]))) (hl : cs.length ≤ 1000) : mJoin (.str (S [])) [y] h = some (.str (S cs), h) := by
  have e : (cs.map fun c => D.str (S [c])) = (cs.map fun c => [c]).map fun l => D.str (S l) := by rw [List.map_map]; rfl
  have e2 : (cs.map fun c => [c]).map S = cs.map fun c => S [c] := by rw [List.map_map]; rfl
  show ((seqOf h y).bind fun xs => (strsOf xs).bind fun ys => if lim ((ys.map (·.length)).sum + ys.length * (S []).length) then some (D.str (Txt.join (S []) ys), h) else none) = _
  rw [hy, Option.bind_some, e, strs_S, Option.bind_some]
  rw [if_pos (lim_of (by rw [e2, lens_one]; simp [S_len]; omega))]
  rw [SX.join_S, joinL_one]
/-! ### names -/
def Low (l : List Nat) : Prop := ∀ c ∈ l, 97 ≤ c ∧ c ≤ 122
def Nm (s : Str) : Prop := ∃ l, s = S l ∧ 1 ≤ l.length ∧ l.length ≤ 8 ∧ Low l
def abc : List Nat := (List.range 26).map (97 + ·)
theorem abc_eq : ("abcdefghijklmnopqrstuvwxyz" : Str) = S abc := by decide +kernel
theorem empty_eq : ("" : Str) = S [] := by decide +kernel
theorem abc_low : Low abc := by
  intro c hc
  obtain ⟨i, hi, rfl⟩ := List.mem_map.mp hc
  have := List.mem_range.mp hi
  omega
theorem abc_at {i : Int} (h0 : 0 ≤ i) (h1 : i < 26) : atI abc i = some (97 + i.toNat) := by
  obtain ⟨j, rfl⟩ : ∃ j : Nat, i = j := ⟨i.toNat, by omega⟩
  refine atI_nat ?_
  unfold abc
  rw [List.getElem?_map, List.getElem?_range (by omega)]
  rfl
theorem S_one (c : Nat) : (⟨#[c]⟩ : Str) = S [c] := rfl

end
section
open PySem PySem.Spec PyProof.Rows L2
open SX (S S_len S_cat S_inj)
def lett (f s : Int) (k : Nat) : Nat := 97 + ((f + s * (0 + k)) % 25).toNat
def tailN (cut : Int) (k : Nat) : Int := if cut = 0 then 7 else if cut = 2 then (0 + (k : Int)) % 3 else 0
def nameF (st : List Nat) (a f s cut : Int) (k : Nat) : List Nat := st.take a.toNat ++ [lett f s k] ++ (st.drop a.toNat).take (tailN cut k).toNat
theorem lett_inj {f s : Int} (hs : s = 1 ∨ s = 3 ∨ s = 6 ∨ s = 7 ∨ s = 9 ∨ s = 11) {i j : Nat} (hi : i < 10) (hj : j < 10) (e : lett f s i = lett f s j) : i = j := by
  unfold lett at e
  have e2 : ((f + s * (0 + i)) % 25).toNat = ((f + s * (0 + j)) % 25).toNat := by omega
  rcases hs with rfl | rfl | rfl | rfl | rfl | rfl <;> omega
theorem lett_low {f s : Int} {i : Nat} : 97 ≤ lett f s i ∧ lett f s i ≤ 122 := by
  unfold lett
  omega
theorem tail_at {cut : Int} {k : Nat} {h : Hh} (h0 : 0 ≤ cut) (h1 : cut < 3) : oIt (.lst [.int 7, .int 0, .int ((0 + (k : Int)) % 3)]) (.int cut) h = some (.int (tailN cut k)) := by
  have : cut = 0 ∨ cut = 1 ∨ cut = 2 := by omega
  rcases this with rfl | rfl | rfl <;> rfl
theorem tailN_nn {cut : Int} {k : Nat} : 0 ≤ tailN cut k := by
  unfold tailN
  split
  · decide
  · split
    · exact Int.emod_nonneg _ (by decide)
    · decide
theorem Low.take {l : List Nat} (h : Low l) (n : Nat) : Low (l.take n) := fun c hc => h c (List.mem_of_mem_take hc)
theorem Low.drop {l : List Nat} (h : Low l) (n : Nat) : Low (l.drop n) := fun c hc => h c (List.mem_of_mem_drop hc)
theorem Low.app {l m : List Nat} (h : Low l) (k : Low m) : Low (l ++ m) := fun c hc => (List.mem_append.mp hc).elim (h c) (k c)
theorem Low.one {c : Nat} (h : 97 ≤ c ∧ c ≤ 122) : Low [c] := fun d hd => by rw [List.mem_singleton.mp hd]; exact h
theorem nameF_low {st : List Nat} {a f s cut : Int} {k : Nat} (h : Low st) : Low (nameF st a f s cut k) := ((h.take _).app (.one lett_low)).app ((h.drop _).take _)
theorem nameF_len {st : List Nat} {a f s cut : Int} {k : Nat} (h : st.length ≤ 6) : 1 ≤ (nameF st a f s cut k).length ∧ (nameF st a f s cut k).length ≤ 8 := by
  unfold nameF
  simp only [List.length_append, List.length_take, List.length_drop, List.length_cons, List.length_nil]
  omega
theorem nameF_inj {st : List Nat} {a f s cut : Int} (hs : s = 1 ∨ s = 3 ∨ s = 6 ∨ s = 7 ∨ s = 9 ∨ s = 11) {i j : Nat} (hi : i < 10) (hj : j < 10) (e : nameF st a f s cut i = nameF st a f s cut j) : i = j := by
  refine lett_inj (f := f) hs hi hj ?_
  unfold nameF at e
  rw [List.append_assoc, List.append_assoc] at e
  have e2 := List.append_cancel_left e
  injection e2
theorem src_at {h : Hh} {i : Nat} {xs : List D} (e : h[i]? = some (.lst xs)) : srcOf h (.ref i) = some ⟨some (i, .lst xs), xs⟩ := by simp [srcOf, e]
theorem range_map_at {β : Type} {n k : Nat} {F : Nat → β} {x : β} (e : ((List.range n).map F)[k]? = some x) : k < n ∧ x = F k := by
  rw [List.getElem?_map] at e
  by_cases q : k < n
  · rw [List.getElem?_range q] at e
    exact ⟨q, (Option.some.inj e).symm⟩
  · rw [List.getElem?_eq_none (by simpa using Nat.le_of_not_lt q)] at e
    cases e
theorem nodup_range {β : Type} {n : Nat} {F : Nat → β} (h : ∀ i j, i < n → j < n → F i = F j → i = j) : ((List.range n).map F).Nodup := by
  unfold List.Nodup
  rw [List.pairwise_map]
  refine List.Pairwise.imp_of_mem ?_ List.pairwise_lt_range
  intro i j hi hj lt e
  have := h i j (List.mem_range.mp hi) (List.mem_range.mp hj) e
  omega
theorem range_succ_map {β : Type} {n : Nat} {F : Nat → β} : (List.range (n + 1)).map F = (List.range n).map F ++ [F n] := by
  rw [List.range_succ, List.map_append]
  rfl
theorem drw_some_names {n : Int} (n1 : 1 ≤ n) (n2 : n ≤ 10) : Drw s__law_some_names 100 [.int n] fun v => ∃ ns : List Str, v = .lst (ns.map .str) ∧ ns.length = n.toNat ∧ ns.Nodup ∧ ∀ s ∈ ns, Nm s := by
  intro p h b P hb
  unfold s__law_some_names
  rw [w_len]
  refine ⟨rfl, ?_⟩
  refine At.fin ?_
  rw [w_run]
  unfold k__law_some_names
  rw [abc_eq, empty_eq]
  walk_at "DL.S"
  refine (drw_draw (by omega) (by omega)).at P (At.start P) (by omega) ?_
  rintro _ h2 A ⟨n0, rfl, i1, i2⟩
  refine ⟨_, rfl, rng_ok (by omega) (by omega), ?_⟩
  refine w_compI (fun k acc h' => ∃ cs, acc = cs.map (fun c => D.str (S [c])) ∧ cs.length = k ∧ Low cs ∧ At p h (b + 6 + 6 * k) [] h') (fun _ _ _ _ => trivial) ?_ ?_ ⟨[], rfl, rfl, (fun _ h => by cases h), A.mono (by omega)⟩
  · rintro k x acc h' hx ⟨cs, rfl, rfl, lo, A⟩
    obtain ⟨hk, rfl⟩ := ups_get hx
    refine ⟨_, _, rfl, ?_⟩
    walk_at "DL.S"
    refine (drw_pickS (by rw [S_len]; decide) (S_lim (by decide))).at P A (by omega) ?_
    rintro _ h2 A ⟨c, hc, rfl⟩
    have hc' : c ∈ abc := by simpa using hc
    exact ⟨cs ++ [c], by simp, by simp, lo.app (.one (abc_low c hc')), A.mono (by simp; omega)⟩
  · rintro acc h' ⟨cs, rfl, hl, lo, A⟩
    replace hl : cs.length = n0.toNat := hl.trans ups_len
    replace A : At p h (b + 48) [] h' := A.mono (by rw [show (Src.mk none (ups 0 n0.toNat)).items.length = n0.toNat from ups_len]; omega)
    walk_at "DL.S"
    refine ⟨_, _, join_one rfl (by omega), ?_⟩
    walk_at "DL.S"
    refine ⟨_, cut_to (by omega) (by decide), ?_⟩
    have hst : (cs.take (6 : Int).toNat).length ≤ 6 := by rw [List.length_take]; exact Nat.min_le_left _ _
    have slo := lo.take (6 : Int).toNat
    generalize cs.take (6 : Int).toNat = st at hst slo
    walk_at "DL.S"
    refine ⟨_, _, len_S (by omega), ?_⟩
    walk_at "DL.S"
    refine (drw_draw (by omega) (by omega)).at P A (by omega) ?_
    rintro _ h3 A1 ⟨a, rfl, a1, a2⟩
    walk_at "DL.S"
    refine (drw_draw (by omega) (by omega)).at P A1 (by omega) ?_
    rintro _ h4 A2 ⟨f, rfl, f1, f2⟩
    walk_at "DL.S"
    refine (drw_pick (by decide) (by decide) (List.all_eq_true.mp rfl)).at P A2 (by omega) ?_
    rintro v h5 A3 hv
    obtain ⟨s, rfl, hs⟩ : ∃ s : Int, v = .int s ∧ (s = 1 ∨ s = 3 ∨ s = 6 ∨ s = 7 ∨ s = 9 ∨ s = 11) := by
      simp only [List.mem_cons, List.not_mem_nil, or_false] at hv
      rcases hv with rfl | rfl | rfl | rfl | rfl | rfl
      · exact ⟨_, rfl, .inl rfl⟩
      · exact ⟨_, rfl, .inr (.inl rfl)⟩
      · exact ⟨_, rfl, .inr (.inr (.inl rfl))⟩
      · exact ⟨_, rfl, .inr (.inr (.inr (.inl rfl)))⟩
      · exact ⟨_, rfl, .inr (.inr (.inr (.inr (.inl rfl))))⟩
      · exact ⟨_, rfl, .inr (.inr (.inr (.inr (.inr rfl))))⟩
    walk_at "DL.S"
    refine (drw_draw (by omega) (by omega)).at P A3 (by omega) ?_
    rintro _ h6 A4 ⟨cut, rfl, c1, c2⟩
    walk_at "DL.S"
    refine ⟨rng_ok (by omega) (by omega), ?_⟩
    refine w_loopI (fun k de h' => (∃ d10 d11, de = [some (.ref p), some (.int n), some (.str (S abc)), some (.str (S st)), some (.int a), some (.int f), some (.int s), some (.int cut), some (.ref h.length), none, d10, d11]) ∧ At p h (b + 72) [.lst ((List.range k).map fun i => D.str (S (nameF st a f s cut i)))] h') (fun _ _ _ _ => trivial) ?_ ?_ ?_
    · rintro k x _ h' hx ⟨⟨d10, d11, rfl⟩, A⟩
      obtain ⟨hk, rfl⟩ := ups_get hx
      refine ⟨_, _, rfl, ?_⟩
      walk_at "DL.S"
      refine ⟨_, cut_from (by omega) (by omega), ?_⟩
      walk_at "DL.S"
      refine ⟨_, tail_at c1 c2, ?_⟩
      walk_at "DL.S"
      refine ⟨_, cut_to (by rw [List.length_drop]; omega) tailN_nn, ?_⟩
      walk_at "DL.S"
      refine ⟨_, mul_int (by omega) (by omega) (by omega) (by omega), ?_⟩
      walk_at "DL.S"
      refine ⟨_, at_S (by decide) (abc_at (Int.emod_nonneg _ (by decide)) (by have := Int.emod_lt_of_pos (f + s * (0 + (k : Int))) (by decide : (0 : Int) < 25); omega)), ?_⟩
      walk_at "DL.S"
      refine ⟨isL_at (A.look 0), ?_⟩
      walk_at "DL.S"
      refine ⟨_, cut_to (by omega) a1, ?_⟩
      walk_at "DL.S"
      refine ⟨_, cat_S (by rw [List.length_take]; omega) (by simp), ?_⟩
      walk_at "DL.S"
      refine ⟨_, cat_S (by simp only [List.length_append, List.length_take, List.length_singleton]; omega) (by rw [List.length_take, List.length_drop]; omega), ?_⟩
      walk_at "DL.S"
      refine ⟨_, _, app_at (A.look 0) (by simp; omega), ?_⟩
      refine ⟨⟨_, _, rfl⟩, ?_⟩
      have := A.set (o := .lst ((List.range (k + 1)).map fun i => D.str (S (nameF st a f s cut i)))) 0
      rw [range_succ_map] at this ⊢
      exact this
    · rintro _ h' ⟨⟨d10, d11, rfl⟩, A⟩
      replace A : At p h (b + 72) [.lst ((List.range n.toNat).map fun i => D.str (S (nameF st a f s cut i)))] h' := by
        have e : (Src.mk none (ups 0 n.toNat)).items.length = n.toNat := ups_len
        rw [e] at A
        exact A
      have hn : n.toNat ≤ 10 := by omega
      walk_at "DL.S"
      refine ⟨_, A.mono (by omega), _, norm_lst (Nat.zero_le _) (Nat.le_refl _) (A.look 0) (by
        rw [List.all_eq_true]
        intro x hx
        obtain ⟨i, _, rfl⟩ := List.mem_map.mp hx
        rfl), (List.range n.toNat).map fun i => S (nameF st a f s cut i), by rw [List.map_map]; rfl, by simp, nodup_range fun i j hi hj e => nameF_inj hs (by omega) (by omega) (S_inj e), fun z hz => ?_⟩
      obtain ⟨i, hi, rfl⟩ := List.mem_map.mp hz
      have := nameF_len (a := a) (f := f) (s := s) (cut := cut) (k := i) hst
      exact ⟨_, rfl, this.1, this.2, nameF_low slo⟩
    · exact ⟨⟨_, _, by rw [show List.length h6 = h.length from A4.len]; rfl⟩, A4.alloc.mono (by omega)⟩

end
section
open PySem PySem.Spec PyProof.Rows L2
open SX (S S_len S_cat S_inj)
/-! ### places -/
/-- a price or none -/
def oi : Option Int → D
  | none => .non
  | some i => .int i
structure Pl where
  nm : Str
  buy : Option Int
  sell : Option Int
  fee : Int
def Pl.d (p : Pl) : D := .tup [.str p.nm, oi p.buy, oi p.sell, .int p.fee]
def Price : Option Int → Prop
  | none => True
  | some i => 0 ≤ i ∧ i ≤ 10 ^ 30
structure Pl.Ok (p : Pl) : Prop where
  nm : Nm p.nm
  buy : Price p.buy
  sell : Price p.sell
  le : ∀ i j, p.buy = some i → p.sell = some j → j ≤ i
  f0 : 0 ≤ p.fee
  f1 : p.fee ≤ 10 ^ 30
theorem sif_join {p : Bool} {A B : Sr} {N : Env' → Hh → Prop} {R : D → Hh → Prop} (M : Env' → Hh → Prop) (a : p = true → WS A M R) (b : p = false → WS B M R) (n : ∀ de h, M de h → N de h) : (p = true → WS A N R) ∧ (p = false → WS B N R) := ⟨fun q => (a q).mono n fun _ _ z => z, fun q => (b q).mono n fun _ _ z => z⟩
theorem mem_ints {v : D} {is : List Int} (h : v ∈ is.map D.int) : ∃ i, v = .int i ∧ i ∈ is := by
  obtain ⟨i, hi, rfl⟩ := List.mem_map.mp h
  exact ⟨i, rfl, hi⟩
theorem drw_drawn_place {nm : Str} {hi : Int} (h0 : Nm nm) (h1 : 1 ≤ hi) (h2 : hi ≤ 10 ^ 30) : Drw s__law_drawn_place 100 [.str nm, .int hi] fun v => ∃ q : Pl, v = q.d ∧ q.Ok ∧ q.nm = nm := by
  intro p h b P hb
  unfold s__law_drawn_place
  rw [w_len]
  refine ⟨rfl, ?_⟩
  refine At.fin ?_
  rw [w_run]
  unfold k__law_drawn_place
  walk_at "DL.S"
  refine (drw_draw (by omega) (by omega)).at P (At.start P) (by omega) ?_
  rintro _ h3 A ⟨k, rfl, k1, k2⟩
  walk_at "DL.S"
  refine sif_join (fun de h' => ∃ bu, Price bu ∧ (1 < k → bu ≠ none) ∧ (k ≤ 1 → bu = none) ∧ de = [some (.ref p), some (.str nm), some (.int hi), some (.int k), some (oi bu), some .non] ∧ At p h (b + 24) [] h') (fun q => ?_) (fun q => ?_) ?_
  · have q2 : 1 < k := of_decide_eq_true q
    walk_at "DL.S"
    refine (drw_draw (by omega) (by omega)).at P A (by omega) ?_
    rintro _ h4 A ⟨d1, rfl, d11, d12⟩
    walk_at "DL.S"
    refine (drw_draw (by omega) (by omega)).at P A (by omega) ?_
    rintro _ h5 A ⟨d2, rfl, d21, d22⟩
    walk_at "DL.S"
    refine (drw_pick (by simp) (by simp) (List.all_eq_true.mp rfl)).at P A (by omega) ?_
    rintro v h6 A hv
    obtain ⟨i, rfl, hm⟩ := mem_ints (is := [0, 1, d1, d2, hi]) hv
    have hi' : 0 ≤ i ∧ i ≤ 10 ^ 30 := by
      simp only [List.mem_cons, List.not_mem_nil, or_false] at hm
      rcases hm with rfl | rfl | rfl | rfl | rfl <;> omega
    exact ⟨some i, hi', (fun _ z => by cases z), (fun z => by omega), rfl, A.mono (by omega)⟩
  · have q2 : ¬ 1 < k := of_decide_eq_false q
    walk_at "DL.S"
    exact ⟨none, trivial, (fun z => absurd z q2), (fun _ => rfl), rfl, A.mono (by omega)⟩
  · rintro _ h' ⟨bu, pb, pb1, pb2, rfl, A⟩
    walk_at "DL.S"
    refine sif_join (fun de h' => ∃ se, Price se ∧ (∀ i j, bu = some i → se = some j → j ≤ i) ∧ (k ≤ 3 → se = none) ∧ de = [some (.ref p), some (.str nm), some (.int hi), some (.int k), some (oi bu), some (oi se)] ∧ At p h (b + 48) [] h') (fun q => ?_) (fun q => ?_) ?_
    · have q2 : 3 < k := of_decide_eq_true q
      cases bu with
      | none => exact absurd rfl (pb1 (by omega))
      | some bi =>
        have pb' : 0 ≤ bi ∧ bi ≤ 10 ^ 30 := pb
        walk_at "DL.S"
        refine (drw_draw (by omega) (by omega)).at P A (by omega) ?_
        rintro _ h4 A ⟨d1, rfl, d11, d12⟩
        walk_at "DL.S"
        refine (drw_pick (by simp) (by simp) (List.all_eq_true.mp rfl)).at P A (by omega) ?_
        rintro v h6 A hv
        obtain ⟨i, rfl, hm⟩ := mem_ints (is := [0, bi, d1]) hv
        have hi' : 0 ≤ i ∧ i ≤ bi := by
          simp only [List.mem_cons, List.not_mem_nil, or_false] at hm
          rcases hm with rfl | rfl | rfl <;> omega
        exact ⟨some i, ⟨hi'.1, by omega⟩, (fun x y e1 e2 => by cases e1; cases e2; exact hi'.2), (fun z => by omega), rfl, A.mono (by omega)⟩
    · have q2 : ¬ 3 < k := of_decide_eq_false q
      walk_at "DL.S"
      exact ⟨none, trivial, (fun _ _ _ z => by cases z), (fun _ => rfl), rfl, A.mono (by omega)⟩
    · rintro _ h' ⟨se, ps, ps1, ps2, rfl, A⟩
      walk_at "DL.S"
      refine sif_join (fun de h' => ∃ se, Price se ∧ (∀ i j, bu = some i → se = some j → j ≤ i) ∧ de = [some (.ref p), some (.str nm), some (.int hi), some (.int k), some (oi bu), some (oi se)] ∧ At p h (b + 72) [] h') (fun q => ?_) (fun q => ?_) ?_
      · have q2 : k = 1 := of_decide_eq_true q
        have hb0 : bu = none := pb2 (by omega)
        subst hb0
        walk_at "DL.S"
        refine (drw_draw (by omega) (by omega)).at P A (by omega) ?_
        rintro _ h4 A ⟨d1, rfl, d11, d12⟩
        walk_at "DL.S"
        refine (drw_pick (by simp) (by simp) (List.all_eq_true.mp rfl)).at P A (by omega) ?_
        rintro v h6 A hv
        obtain ⟨i, rfl, hm⟩ := mem_ints (is := [1, d1]) hv
        have hi' : 0 ≤ i ∧ i ≤ 10 ^ 30 := by
          simp only [List.mem_cons, List.not_mem_nil, or_false] at hm
          rcases hm with rfl | rfl <;> omega
        exact ⟨some i, hi', (fun _ _ z => by cases z), rfl, A.mono (by omega)⟩
      · walk_at "DL.S"
        exact ⟨se, ps, ps1, rfl, A.mono (by omega)⟩
      · rintro _ h' ⟨se, ps, ps1, rfl, A⟩
        walk_at "DL.S"
        refine (drw_draw (by omega) (by omega)).at P A (by omega) ?_
        rintro _ h4 A ⟨d1, rfl, d11, d12⟩
        walk_at "DL.S"
        refine (drw_draw (by omega) (by omega)).at P A (by omega) ?_
        rintro _ h5 A ⟨d2, rfl, d21, d22⟩
        walk_at "DL.S"
        refine (drw_pick (by simp) (by simp) (List.all_eq_true.mp rfl)).at P A (by omega) ?_
        rintro v h6 A hv
        obtain ⟨i, rfl, hm⟩ := mem_ints (is := [0, 0, d1, d2]) hv
        have hi' : 0 ≤ i ∧ i ≤ 10 ^ 30 := by
          simp only [List.mem_cons, List.not_mem_nil, or_false] at hm
          rcases hm with rfl | rfl | rfl | rfl <;> omega
        walk_at "DL.S"
        exact ⟨_, A.mono (by omega), _, norm_flat (Nat.zero_le _) (by cases bu <;> cases se <;> rfl), ⟨nm, bu, se, i⟩, rfl, ⟨h0, pb, ps, ps1, hi'.1, hi'.2⟩, rfl⟩

end
section
open PySem PySem.Spec PyProof.Rows L2
/-! ### dicts as rows of pairs -/
section
variable {α β : Type} [DecidableEq α]
def lk : List (α × β) → α → Option β
  | [], _ => none
  | p :: r, a => if p.1 = a then some p.2 else lk r a
def rp : List (α × β) → α → β → List (α × β)
  | [], _, _ => []
  | p :: r, a, v => (if p.1 = a then (p.1, v) else p) :: rp r a v
def st (m : List (α × β)) (a : α) (v : β) : List (α × β) := if (lk m a).isSome then rp m a v else m ++ [(a, v)]
theorem lk_none {m : List (α × β)} {a : α} : lk m a = none ↔ a ∉ m.map (·.1) := by
  induction m with
  | nil => simp [lk]
  | cons p r ih =>
    unfold lk
    by_cases h : p.1 = a
    · simp [h]
    · simp only [h, if_false, ih, List.map_cons, List.mem_cons, not_or]
      exact ⟨fun q => ⟨fun z => h z.symm, q⟩, fun q => q.2⟩
theorem lk_some {m : List (α × β)} {a : α} {v : β} (h : lk m a = some v) : (a, v) ∈ m := by
  induction m with
  | nil => cases h
  | cons p r ih =>
    unfold lk at h
    by_cases q : p.1 = a
    · rw [if_pos q] at h
      cases h
      subst q
      exact List.mem_cons_self
    · rw [if_neg q] at h
      exact List.mem_cons_of_mem _ (ih h)
theorem lk_mem {m : List (α × β)} (nd : (m.map (·.1)).Nodup) {a : α} {v : β} (h : (a, v) ∈ m) : lk m a = some v := by
  induction m with
  | nil => cases h
  | cons p r ih =>
    unfold lk
    rw [List.map_cons, List.nodup_cons] at nd
    rcases List.mem_cons.mp h with h | h
    · subst h
      rw [if_pos rfl]
    · rw [if_neg (fun z => nd.1 (by rw [z]; exact List.mem_map_of_mem (f := (·.1)) h))]
      exact ih nd.2 h
theorem rp_keys {m : List (α × β)} {a : α} {v : β} : (rp m a v).map (·.1) = m.map (·.1) := by
  induction m with
  | nil => rfl
  | cons p r ih =>
    unfold rp
    rw [List.map_cons, List.map_cons, ih]
    by_cases h : p.1 = a <;> simp [h]
theorem lk_rp {m : List (α × β)} {a b : α} {v : β} : lk (rp m a v) b = if b = a then (lk m a).map fun _ => v else lk m b := by
  induction m with
  | nil => simp [rp, lk]
  | cons p r ih =>
    unfold rp
    by_cases h : p.1 = a
    · rw [if_pos h]
      by_cases h2 : b = a
      · subst h2
        simp [lk, h]
      · have h3 : ¬ p.1 = b := fun z => h2 (z.symm.trans h)
        simp only [lk, h3, if_false, ih, h2]
    · rw [if_neg h]
      by_cases h2 : b = a
      · subst h2
        simp only [lk, h, if_false, ih, if_true]
      · by_cases h3 : p.1 = b
        · simp [lk, h3, h2]
        · simp only [lk, h3, if_false, ih, h2]
theorem lk_app {m : List (α × β)} {a b : α} {v : β} (h : lk m a = none) : lk (m ++ [(a, v)]) b = if b = a then some v else lk m b := by
  induction m with
  | nil =>
    by_cases q : a = b
    · simp [lk, q]
    · have : ¬ b = a := fun z => q z.symm
      simp [lk, q, this]
  | cons p r ih =>
    have hp : ¬ p.1 = a := fun z => by simp [lk, z] at h
    have hr : lk r a = none := by simpa [lk, hp] using h
    rw [List.cons_append]
    by_cases h3 : p.1 = b
    · have : ¬ b = a := fun z => hp (h3.trans z)
      simp [lk, h3, this]
    · simp only [lk, h3, if_false]
      exact ih hr
theorem lk_st {m : List (α × β)} {a b : α} {v : β} : lk (st m a v) b = if b = a then some v else lk m b := by
  unfold st
  cases h : lk m a with
  | none => simpa using lk_app h
  | some w =>
    simp only [Option.isSome_some, if_true]
    rw [lk_rp, h]
    rfl
theorem st_nodup {m : List (α × β)} {a : α} {v : β} (nd : (m.map (·.1)).Nodup) : ((st m a v).map (·.1)).Nodup := by
  unfold st
  cases h : lk m a with
  | none =>
    simp only [Option.isSome_none, Bool.false_eq_true, if_false]
    rw [List.map_append, List.nodup_append]
    refine ⟨nd, by simp, ?_⟩
    intro x hx y hy z
    have : y = a := by simpa using hy
    subst z this
    exact lk_none.mp h hx
  | some w =>
    simp only [Option.isSome_some, if_true]
    rw [rp_keys]
    exact nd
theorem st_len {m : List (α × β)} {a : α} {v : β} : (st m a v).length ≤ m.length + 1 := by
  unfold st
  split
  · have : (rp m a v).length = m.length := by
      have := congrArg List.length (rp_keys (m := m) (a := a) (v := v))
      simpa using this
    omega
  · simp
theorem rp_mem {m : List (α × β)} {a b : α} {v w : β} (h : (b, w) ∈ rp m a v) : (b, w) ∈ m ∨ (b = a ∧ w = v) := by
  induction m with
  | nil => cases h
  | cons p r ih =>
    unfold rp at h
    rcases List.mem_cons.mp h with h | h
    · by_cases q : p.1 = a
      · rw [if_pos q] at h
        cases h
        exact .inr ⟨q, rfl⟩
      · rw [if_neg q] at h
        exact .inl (by rw [h]; exact List.mem_cons_self)
    · rcases ih h with h | h
      · exact .inl (List.mem_cons_of_mem _ h)
      · exact .inr h
theorem st_mem {m : List (α × β)} {a b : α} {v w : β} (h : (b, w) ∈ st m a v) : (b, w) ∈ m ∨ (b = a ∧ w = v) := by
  unfold st at h
  split at h
  · exact rp_mem h
  · rcases List.mem_append.mp h with h | h
    · exact .inl h
    · have : (b, w) = (a, v) := by simpa using h
      cases this
      exact .inr ⟨rfl, rfl⟩
theorem st_keys {m : List (α × β)} {a : α} {v : β} {x : α} : x ∈ (st m a v).map (·.1) ↔ x ∈ m.map (·.1) ∨ x = a := by
  unfold st
  cases h : lk m a with
  | none => simp
  | some w =>
    simp only [Option.isSome_some, if_true]
    rw [rp_keys]
    refine ⟨.inl, fun z => z.elim id fun z => ?_⟩
    subst z
    exact List.mem_map_of_mem (f := (·.1)) (lk_some h)
/-- how the machine's dict bears them -/
structure KD (κ : Type) [DecidableEq κ] (ko : D → Option κ) (kd : α → D) (kc : α → κ) : Prop where
  ko : ∀ a, ko (kd a) = some (kc a)
  inj : ∀ a b, kc a = kc b → a = b
def kvs (kd : α → D) (f : β → D) (m : List (α × β)) : List (D × D) := m.map fun p => (kd p.1, f p.2)
variable {κ : Type} [DecidableEq κ] {ko : D → Option κ} {kd : α → D} {kc : α → κ} {f : β → D}
theorem lookP_kvs (K : KD κ ko kd kc) {m : List (α × β)} {a : α} : lookP ko (kvs kd f m) (kc a) = (lk m a).map f := by
  induction m with
  | nil => rfl
  | cons p r ih =>
    show (if ko (kd p.1) = some (kc a) then some (f p.2) else lookP ko (kvs kd f r) (kc a)) = _
    unfold lk
    by_cases h : p.1 = a
    · subst h
      simp [K.ko]
    · have : ¬ ko (kd p.1) = some (kc a) := fun z => h (K.inj _ _ (by rw [K.ko] at z; exact Option.some.inj z))
      rw [if_neg this, if_neg h, ih]
theorem putP_kvs (K : KD κ ko kd kc) {m : List (α × β)} {a : α} {v : β} : putP ko (kvs kd f m) (kd a) (kc a) (f v) = kvs kd f (st m a v) := by
  unfold putP st
  rw [lookP_kvs K]
  cases h : lk m a with
  | none => simp [kvs]
  | some w =>
    simp only [Option.map_some, Option.isSome_some, if_true]
    clear h
    induction m with
    | nil => rfl
    | cons p r ih =>
      show (if ko (kd p.1) = some (kc a) then (kd p.1, f v) else (kd p.1, f p.2)) :: setP ko (kvs kd f r) (kc a) (f v) = _
      rw [ih]
      show _ = kvs kd f ((if p.1 = a then (p.1, v) else p) :: rp r a v)
      by_cases h : p.1 = a
      · subst h
        rw [if_pos (K.ko _), if_pos rfl]
        rfl
      · have : ¬ ko (kd p.1) = some (kc a) := fun z => h (K.inj _ _ (by rw [K.ko] at z; exact Option.some.inj z))
        rw [if_neg this, if_neg h]
        rfl
end
theorem kdS : KD Key keyOf D.str (fun s => (.inr s : Key)) := ⟨fun _ => rfl, fun _ _ h => by cases h; rfl⟩
def pairD (p : Str × Str) : D := .tup [.str p.1, .str p.2]
theorem kdP : KD (List Key) tkeyOf pairD (fun p => [.inr p.1, .inr p.2]) := ⟨fun _ => rfl, fun a b h => by
  obtain ⟨a1, a2⟩ := a
  obtain ⟨b1, b2⟩ := b
  simp at h
  obtain ⟨h1, h2⟩ := h
  cases h1
  cases h2
  rfl⟩
section
variable {β : Type} {f : β → D} {h : Hh} {i : Nat}
/-- d[k] = v of a dict by texts, by pairs -/
theorem setS_at {m : List (Str × β)} {s : Str} {v : β} (e : h[i]? = some (.dct false (kvs D.str f m))) (hl : m.length ≤ 1000) : setIt (.ref i) (.str s) (f v) h = some (h.set i (.dct false (kvs D.str f (st m s v)))) := by
  simp only [setIt, e, keyOf, Option.bind_some]
  rw [if_pos (lim_of (by simp [kvs]; omega)), putP_kvs kdS]
theorem setP_at {m : List ((Str × Str) × β)} {p : Str × Str} {v : β} (e : h[i]? = some (.dct true (kvs pairD f m))) (hl : m.length ≤ 1000) : setIt (.ref i) (pairD p) (f v) h = some (h.set i (.dct true (kvs pairD f (st m p v)))) := by
  simp only [setIt, e, kdP.ko, Option.bind_some]
  rw [if_pos (lim_of (by simp [kvs]; omega)), putP_kvs kdP]
theorem getS_of {m : List (Str × β)} {s : Str} {d : D} (e : dctOf h d = some (false, kvs D.str f m)) {v : β} (hv : lk m s = some v) (hd : ∀ z, d ≠ .str z) : oIt d (.str s) h = some (f v) := by
  have : dlook false (kvs D.str f m) (.str s) = some (some (f v)) := by
    show (keyOf (.str s)).map (lookP keyOf (kvs D.str f m)) = _
    have k := lookP_kvs (kd := D.str) (f := f) kdS (m := m) (a := s)
    simp only [keyOf, Option.map_some] at k ⊢
    rw [k, hv]
    rfl
  unfold oIt
  split
  · exact absurd rfl (hd _)
  · simp only [e, this]
    rfl
theorem getP_of {m : List ((Str × Str) × β)} {s : Str × Str} {d : D} (e : dctOf h d = some (true, kvs pairD f m)) {v : β} (hv : lk m s = some v) (hd : ∀ z, d ≠ .str z) : oIt d (pairD s) h = some (f v) := by
  have : dlook true (kvs pairD f m) (pairD s) = some (some (f v)) := by
    show (tkeyOf (pairD s)).map (lookP tkeyOf (kvs pairD f m)) = _
    have k := lookP_kvs (kd := pairD) (f := f) kdP (m := m) (a := s)
    rw [kdP.ko, Option.map_some, k, hv]
    rfl
  unfold oIt
  split
  · exact absurd rfl (hd _)
  · simp only [e, this]
    rfl
theorem inS_of {m : List (Str × β)} {s : Str} {d : D} (e : dctOf h d = some (false, kvs D.str f m)) (hd : ∀ z, d ≠ .str z) : inD h (.str s) d = some (lk m s).isSome := by
  have : dlook false (kvs D.str f m) (.str s) = some ((lk m s).map f) := by
    show (keyOf (.str s)).map (lookP keyOf (kvs D.str f m)) = _
    have k := lookP_kvs (kd := D.str) (f := f) kdS (m := m) (a := s)
    simp only [keyOf, Option.map_some] at k ⊢
    rw [k]
  unfold inD
  split
  · exact absurd rfl (hd _)
  · simp only [e, this, Option.map_some]
    cases lk m s <;> rfl
theorem inP_of {m : List ((Str × Str) × β)} {s : Str × Str} {d : D} (e : dctOf h d = some (true, kvs pairD f m)) (hd : ∀ z, d ≠ .str z) : inD h (pairD s) d = some (lk m s).isSome := by
  have : dlook true (kvs pairD f m) (pairD s) = some ((lk m s).map f) := by
    show (tkeyOf (pairD s)).map (lookP tkeyOf (kvs pairD f m)) = _
    have k := lookP_kvs (kd := pairD) (f := f) kdP (m := m) (a := s)
    rw [kdP.ko, Option.map_some, k]
  unfold inD
  split
  · exact absurd rfl (hd _)
  · simp only [e, this, Option.map_some]
    cases lk m s <;> rfl
theorem oIn_of {x d : D} {b : Bool} (e : inD h x d = some b) : oIn x d h = some (.bl b) := by unfold oIn; rw [e]; rfl
theorem oNin_of {x d : D} {b : Bool} (e : inD h x d = some b) : oNin x d h = some (.bl (!b)) := by unfold oNin; rw [e]; rfl
theorem getM_of {m : List (Str × β)} {s : Str} {d y : D} (e : dctOf h d = some (false, kvs D.str f m)) : mGet d [.str s, y] h = some (((lk m s).map f).getD y, h) := by
  have : dlook false (kvs D.str f m) (.str s) = some ((lk m s).map f) := by
    show (keyOf (.str s)).map (lookP keyOf (kvs D.str f m)) = _
    have k := lookP_kvs (kd := D.str) (f := f) kdS (m := m) (a := s)
    simp only [keyOf, Option.map_some] at k ⊢
    rw [k]
  simp only [mGet, e, Option.bind_some, this, Option.map_some]
theorem dct_ref {t : Bool} {k : List (D × D)} (e : h[i]? = some (.dct t k)) : dctOf h (.ref i) = some (t, k) := by simp [dctOf, e]
theorem dct_lock {t : Bool} {k : List (D × D)} (e : h[i]? = some (.lock t k)) : dctOf h (.ref i) = some (t, k) := by simp [dctOf, e]
theorem dct_frz {t : Bool} {α : Type} {kd : α → D} {m : List (α × β)} : dctOf h (.dct t ((kvs kd f m).map (·.1)) ((kvs kd f m).map (·.2))) = some (t, kvs kd f m) := by
  show (if ((kvs kd f m).map (·.1)).length = ((kvs kd f m).map (·.2)).length then some (t, ((kvs kd f m).map (·.1)).zip ((kvs kd f m).map (·.2))) else none) = _
  rw [if_pos (by simp)]
  congr 2
  generalize kvs kd f m = l
  induction l with
  | nil => rfl
  | cons p r ih => rw [List.map_cons, List.map_cons, List.zip_cons_cons, ih]
theorem isD_ref {t : Bool} {k : List (D × D)} (e : h[i]? = some (.dct t k)) : isD h (.ref i) = true := by simp [isD, e]
end

end
section
open PySem PySem.Spec PyProof.Rows L2
open SX (S S_len S_cat S_inj)
/-! ### roads -/
structure Ro where
  u : Str
  v : Str
  use : Int
def Ro.d (r : Ro) : D := .tup [.str r.u, .str r.v, .int r.use]
def Ro.k (r : Ro) : Str × Str := (r.u, r.v)
def PairOk (ns : List Str) (p : Str × Str) : Prop := p.1 ∈ ns ∧ p.2 ∈ ns ∧ p.1 ≠ p.2
theorem strOk_S {l : List Nat} (h : Low l) : PyData.strOk (S l) = true := by
  show (l.toArray).all (· < 0x110000) = true
  rw [← Array.all_toList, List.all_eq_true]
  intro c hc
  have := h c hc
  exact decide_eq_true (by omega)
theorem Nm.ok {s : Str} (h : Nm s) : PyData.strOk s = true := by
  obtain ⟨l, rfl, _, _, lo⟩ := h
  exact strOk_S lo
theorem strs_flat {k : Nat} {ns : List Str} : ∀ x ∈ ns.map D.str, flatN 0 (k + 1) x = true := by
  intro x hx
  obtain ⟨s, _, rfl⟩ := List.mem_map.mp hx
  rfl
theorem strs_dat {k : Nat} {ns : List Str} (h : ∀ s ∈ ns, Nm s) : ∀ x ∈ ns.map D.str, datOk (k + 1) x = true := by
  intro x hx
  obtain ⟨s, hs, rfl⟩ := List.mem_map.mp hx
  exact (h s hs).ok
theorem perm_map {α β : Type} {f : α → β} : ∀ {xs : List α} {ys : List β}, ys.Perm (xs.map f) → ∃ zs : List α, ys = zs.map f ∧ zs.Perm xs
  | [], ys, h => ⟨[], by rw [List.map_nil] at h; exact h.eq_nil, .refl _⟩
  | x :: xs, ys, h => by
    rw [List.map_cons] at h
    obtain ⟨a, b, rfl⟩ := List.append_of_mem (h.mem_iff.mpr List.mem_cons_self)
    have h2 : (a ++ b).Perm (xs.map f) := (List.perm_cons (f x)).mp (List.perm_middle.symm.trans h)
    obtain ⟨zs, e, pz⟩ := perm_map h2
    obtain ⟨l1, l2, rfl, rfl, rfl⟩ := List.append_eq_map_iff.mp e
    exact ⟨l1 ++ x :: l2, by simp, List.perm_middle.trans (.cons x pz)⟩
theorem cutD_from {xs : List D} {k : Int} (h0 : 0 ≤ k) : cutD xs (some k) none = xs.drop k.toNat := by
  unfold cutD HT.sIx
  simp only [if_neg (show ¬ k < 0 by omega)]
  rw [List.take_of_length_le (by simp)]
  rcases Nat.le_total k.toNat xs.length with h | h
  · rw [Nat.min_eq_left h]
  · rw [Nat.min_eq_right h, List.drop_length, List.drop_eq_nil_of_le h]
theorem cutD_to {xs : List D} {k : Int} (h0 : 0 ≤ k) : cutD xs none (some k) = xs.take k.toNat := by
  unfold cutD HT.sIx
  simp only [if_neg (show ¬ k < 0 by omega), List.drop_zero, Nat.sub_zero]
  rcases Nat.le_total k.toNat xs.length with h | h
  · rw [Nat.min_eq_left h]
  · rw [Nat.min_eq_right h, List.take_length, List.take_of_length_le h]
theorem zip_ok {ns : List Str} (nd : ns.Nodup) (h1 : 1 < ns.length) {k : Nat} {x : D} (e : (zipD (ns.map D.str) ((ns.drop 1 ++ ns.take 1).map D.str))[k]? = some x) : ∃ p, x = pairD p ∧ PairOk ns p := by
  obtain ⟨y, z, e1, e2, rfl⟩ := zip_get e
  rw [List.getElem?_map] at e1 e2
  cases q1 : ns[k]? with
  | none => rw [q1] at e1; cases e1
  | some a =>
    cases q2 : (ns.drop 1 ++ ns.take 1)[k]? with
    | none => rw [q2] at e2; cases e2
    | some c =>
      rw [q1] at e1
      rw [q2] at e2
      cases e1
      cases e2
      refine ⟨(a, c), rfl, List.mem_of_getElem? q1, ?_, ?_⟩
      · rcases List.mem_append.mp (List.mem_of_getElem? q2) with h | h
        · exact List.mem_of_mem_drop h
        · exact List.mem_of_mem_take h
      · intro ac
        have ac : a = c := ac
        subst ac
        have hk := (List.getElem?_eq_some_iff.mp q1).1
        by_cases z : k + 1 < ns.length
        · rw [List.getElem?_append_left (by rw [List.length_drop]; omega), List.getElem?_drop] at q2
          have := (List.getElem?_inj hk nd).mp (q1.trans q2.symm)
          omega
        · rw [List.getElem?_append_right (by rw [List.length_drop]; omega), List.length_drop, List.getElem?_take_of_lt (by omega)] at q2
          have := (List.getElem?_inj hk nd).mp (q1.trans q2.symm)
          omega
theorem cat_lst {xs ys : List D} {h : Hh} (hl : xs.length + ys.length ≤ 1000) : oAdd (.lst xs) (.lst ys) h = some (.lst (xs ++ ys)) := by
  show (if lim (xs.length + ys.length) then some (D.lst (xs ++ ys)) else none) = _
  rw [if_pos (lim_of (by omega))]
theorem it_zero {x : D} {xs : List D} {h : Hh} : oIt (.lst (x :: xs)) (.int 0) h = some x := (atI_nat (j := 0) rfl : atI (x :: xs) ((0 : Nat) : Int) = some x)
theorem cut_one {ns : List Str} : cutD (ns.map D.str) (some 1) none = (ns.drop 1).map D.str := by rw [cutD_from (by decide), List.map_drop]; rfl
theorem cut_one' {ns : List Str} : cutD (ns.map D.str) none (some 1) = (ns.take 1).map D.str := by rw [cutD_to (by decide), List.map_take]; rfl
theorem ws_cut {k u : Env' → Hh → Sr} {de : Env'} {h : Hh} {N : Env' → Hh → Prop} {R : D → Hh → Prop} (M : Env' → Hh → Prop) (a : WS (k de h) M fun _ _ => False) (c : ∀ de h, M de h → WS (u de h) N R) : WS (sSeq k u de h) N R := by
  rw [w_seq]
  exact a.mono c fun _ _ => False.elim
theorem cut_ref {h : Hh} {i : Nat} {xs : List D} {lo hi : Option Int} (e : h[i]? = some (.lst xs)) : oCut (.ref i) lo hi h = some (.lst (cutD xs lo hi)) := by
  show (lstOf h (.ref i)).map (fun xs => D.lst (cutD xs lo hi)) = _
  rw [lst_at e]
  rfl
theorem set_last {α : Type} {xs : List α} {a c : α} : (xs ++ [a]).set xs.length c = xs ++ [c] := by
  rw [List.set_append_right _ _ (Nat.le_refl _), Nat.sub_self]
  rfl
theorem get_last {α : Type} {xs : List α} {a : α} : (xs ++ [a])[xs.length]? = some a := by simp
theorem ro_flat {k : Nat} (r : Ro) : flatN 0 (k + 2) r.d = true := rfl
theorem ro_dat {k : Nat} {ns : List Str} (hs : ∀ s ∈ ns, Nm s) {r : Ro} (h : PairOk ns r.k) : datOk (k + 2) r.d = true := by
  show (PyData.strOk r.u && (PyData.strOk r.v && (true && true))) = true
  have e1 : PyData.strOk r.u = true := (hs _ h.1).ok
  have e2 : PyData.strOk r.v = true := (hs _ h.2.1).ok
  rw [e1, e2]
  rfl
theorem drw_drawn_roads {ns : List Str} {fs : List Int} {many : Int} (nd : ns.Nodup) (n1 : 1 ≤ ns.length) (n10 : ns.length ≤ 10) (hs : ∀ s ∈ ns, Nm s) (m0 : 0 ≤ many) (m1 : many ≤ 40) (f0 : 0 < fs.length) (f1 : fs.length ≤ 20) :
    Drw s__law_drawn_roads 20000 [.lst (ns.map .str), .int many, .lst (fs.map .int)] fun v => ∃ rs : List Ro, v = .lst (rs.map Ro.d) ∧ (rs.map Ro.k).Nodup ∧ rs.length ≤ many.toNat ∧ ∀ r ∈ rs, PairOk ns r.k ∧ r.use ∈ fs := by
  intro p h b P hb
  unfold s__law_drawn_roads
  rw [w_len]
  refine ⟨rfl, ?_⟩
  refine At.fin ?_
  rw [w_run]
  unfold k__law_drawn_roads
  have ll : (ns.map D.str).length = ns.length := by simp
  walk_at "DL.S"
  refine (drw_draw (by omega) (by omega)).at P ((At.start P).alloc (o := .lst [])) (by omega) ?_
  rintro _ h2 A ⟨sh, rfl, s1, s2⟩
  walk_at "DL.T"
  have l0 : (h ++ [AO.lst []]).length = h.length + 1 := by simp
  -- the pairs of a round
  refine ws_cut (fun de h' => ∃ i js, ∃ prs : List (Str × Str), de = [some (.ref p), some (.lst (ns.map .str)), some (.int many), some (.lst (fs.map .int)), some (.ref (h.length + i)), some (.int sh), none, none, none, none, none, none, none] ∧ At p h (b + 6) js h' ∧ js[i]? = some (.lst (prs.map pairD)) ∧ prs.length ≤ 20 ∧ ∀ q ∈ prs, PairOk ns q) ?_ ?_
  · walk_at "DL.S"
    refine ⟨fun q => ?_, fun q => ?_⟩
    · walk_at "DL.S"
      refine ⟨fun q => ?_, fun q => ?_⟩
      · have h1 : (1 : Int) < (ns.map D.str).length := of_decide_eq_true q
        rw [ll] at h1
        walk_at "DL.S"
        simp only [cut_one, cut_one']
        refine ⟨_, cat_lst (by simp; omega), ?_⟩
        rw [← List.map_append]
        walk_at "DL.S"
        refine ⟨lim_of (by omega), ?_⟩
        refine w_compI (fun k acc h3 => h3 = h2 ∧ ∃ prs : List (Str × Str), acc = prs.map pairD ∧ prs.length = k ∧ ∀ q ∈ prs, PairOk ns q) (fun _ _ _ _ => trivial) ?_ ?_ ⟨rfl, [], rfl, rfl, fun _ z => by cases z⟩
        · rintro k x _ _ hx ⟨rfl, prs, rfl, rfl, hp⟩
          obtain ⟨q, rfl, hq⟩ := zip_ok nd (by omega) hx
          refine ⟨_, _, rfl, ?_⟩
          walk_at "DL.S"
          refine ⟨prs ++ [q], by simp [pairD], by simp, fun z hz => ?_⟩
          rcases List.mem_append.mp hz with hz | hz
          · exact hp z hz
          · rw [List.mem_singleton.mp hz]; exact hq
        · rintro _ _ ⟨rfl, prs, rfl, hk, hp⟩
          refine ⟨1, [.lst [], .lst (prs.map pairD)], prs, by rw [A.len]; rfl, A.alloc, rfl, ?_, hp⟩
          rw [hk]
          show (zipD _ _).length ≤ 20
          unfold zipD
          rw [List.length_zipWith]
          omega
      · walk_at "DL.S"
        exact ⟨0, [.lst []], [], rfl, A, rfl, by simp, fun _ z => by cases z⟩
    · walk_at "DL.S"
      exact ⟨0, [.lst []], [], rfl, A, rfl, by simp, fun _ z => by cases z⟩
  rintro _ h' ⟨i, js, prs, rfl, A, ei, hl, hp⟩
  -- the pairs of a star
  refine ws_cut (fun de h' => ∃ i js, ∃ prs : List (Str × Str), de = [some (.ref p), some (.lst (ns.map .str)), some (.int many), some (.lst (fs.map .int)), some (.ref (h.length + i)), some (.int sh), none, none, none, none, none, none, none] ∧ At p h (b + 6) js h' ∧ js[i]? = some (.lst (prs.map pairD)) ∧ prs.length ≤ 20 ∧ ∀ q ∈ prs, PairOk ns q) ?_ ?_
  · walk_at "DL.S"
    refine ⟨fun q => ?_, fun q => ?_⟩
    · walk_at "DL.S"
      obtain ⟨n0, nr, rfl⟩ : ∃ a r, ns = a :: r := by
        cases ns with
        | nil => simp at n1
        | cons a r => exact ⟨a, r, rfl⟩
      have hn0 : n0 ∉ nr := (List.nodup_cons.mp nd).1
      have hnr : nr.length ≤ 9 := by simp at n10; omega
      have e1 : cutD ((n0 :: nr).map D.str) (some 1) none = nr.map D.str := cut_one
      simp only [e1]
      refine w_cmap (fun x => .tup [.str n0, x]) (by exact trivial) _ _ (fun x hx => ⟨_, rfl, ?_⟩) ?_
      · walk_at "DL.S"
        refine ⟨_, it_zero, ?_⟩
        walk_at "DL.S"
        first | exact ⟨rfl, rfl⟩ | rfl
      walk_at "DL.S"
      simp only [e1]
      refine w_cmap (fun x => .tup [x, .str n0]) (by exact trivial) _ _ (fun x hx => ⟨_, rfl, ?_⟩) ?_
      · walk_at "DL.S"
        refine ⟨_, it_zero, ?_⟩
        walk_at "DL.S"
        first | exact ⟨rfl, rfl⟩ | rfl
      walk_at "DL.S"
      refine ⟨lim_of (by simp; omega), ?_⟩
      refine ⟨js.length, _, nr.map (fun s => (n0, s)) ++ nr.map (fun s => (s, n0)), by rw [A.len]; rfl, A.alloc, ?_, by simp; omega, ?_⟩
      · rw [List.getElem?_append_right (Nat.le_refl _), Nat.sub_self]
        simp only [List.nil_append, List.map_append, List.map_map, List.getElem?_cons_zero]
        rfl
      · intro q hq
        rcases List.mem_append.mp hq with hq | hq
        · obtain ⟨s, hs, rfl⟩ := List.mem_map.mp hq
          exact ⟨List.mem_cons_self, List.mem_cons_of_mem _ hs, fun z => hn0 (by rw [show n0 = s from z]; exact hs)⟩
        · obtain ⟨s, hs, rfl⟩ := List.mem_map.mp hq
          exact ⟨List.mem_cons_of_mem _ hs, List.mem_cons_self, fun z => hn0 (by rw [← show s = n0 from z]; exact hs)⟩
    · walk_at "DL.S"
      exact ⟨i, js, prs, rfl, A, ei, hl, hp⟩
  clear A ei hl hp
  clear i js prs h'
  rintro _ h' ⟨i, js, prs, rfl, A, ei, hl, hp⟩
  -- how many turns
  refine ws_cut (fun de h' => ∃ t : Int, 0 ≤ t ∧ t ≤ many ∧ (0 < t → 1 < ns.length) ∧ de = [some (.ref p), some (.lst (ns.map .str)), some (.int many), some (.lst (fs.map .int)), some (.ref (h.length + i)), some (.int sh), some (.int t), none, none, none, none, none, none] ∧ At p h (b + 12) js h') ?_ ?_
  · walk_at "DL.S"
    refine ⟨fun q => ?_, fun q => ?_⟩
    · have h1 : (1 : Int) < (ns.map D.str).length := of_decide_eq_true q
      rw [ll] at h1
      walk_at "DL.S"
      refine (drw_draw (by omega) (by omega)).at P A (by omega) ?_
      rintro _ h3 A ⟨t, rfl, t1, t2⟩
      exact ⟨t, t1, by omega, (fun _ => by omega), rfl, A.mono (by omega)⟩
    · walk_at "DL.S"
      exact ⟨0, by omega, m0, (fun z => by omega), rfl, A.mono (by omega)⟩
  clear A
  rintro _ h' ⟨t, t0, t1, t2, rfl, A⟩
  -- drawn pairs
  refine ws_cut (fun de h' => ∃ d8 d9 js, ∃ prs : List (Str × Str), de = [some (.ref p), some (.lst (ns.map .str)), some (.int many), some (.lst (fs.map .int)), some (.ref (h.length + i)), some (.int sh), some (.int t), none, d8, d9, none, none, none] ∧ At p h (b + 10000) js h' ∧ js[i]? = some (.lst (prs.map pairD)) ∧ prs.length ≤ 60 ∧ ∀ q ∈ prs, PairOk ns q) ?_ ?_
  · walk_at "DL.S"
    refine ⟨rng_ok (by omega) (by omega), ?_⟩
    refine w_loopI (fun k de h' => ∃ d8 d9 js, ∃ prs : List (Str × Str), de = [some (.ref p), some (.lst (ns.map .str)), some (.int many), some (.lst (fs.map .int)), some (.ref (h.length + i)), some (.int sh), some (.int t), none, d8, d9, none, none, none] ∧ At p h (b + 12 + 240 * k) js h' ∧ js[i]? = some (.lst (prs.map pairD)) ∧ prs.length ≤ 20 + k ∧ ∀ q ∈ prs, PairOk ns q) (fun _ _ _ _ => trivial) ?_ ?_ ⟨_, _, js, prs, rfl, A.mono (by omega), ei, by omega, hp⟩
    · clear A ei hl hp
      clear prs js
      rintro k x _ h' hx ⟨d8, d9, js, prs, rfl, A, ei, hl, hp⟩
      obtain ⟨hk, rfl⟩ := ups_get hx
      refine ⟨_, _, rfl, ?_⟩
      walk_at "DL.S"
      refine (drw_shuffled (by omega) strs_flat (strs_dat hs)).at P A (by omega) ?_
      rintro _ h3 A ⟨ys, rfl, pm⟩
      obtain ⟨ns2, rfl, pm2⟩ := perm_map pm
      obtain ⟨a, c, r, rfl⟩ : ∃ a c r, ns2 = a :: c :: r := by
        have := pm2.length_eq
        match ns2 with
        | [] => simp at this; omega
        | [a] => simp at this; omega
        | a :: c :: r => exact ⟨a, c, r, rfl⟩
      have nd2 := pm2.nodup_iff.mpr nd
      have ec : cutD ((a :: c :: r).map D.str) none (some 2) = [.str a, .str c] := by rw [cutD_to (by decide)]; rfl
      have ei' := (A.look i).trans ei
      walk_at "DL.S"
      refine ⟨isL_at ei', ?_⟩
      walk_at "DL.S"
      refine ⟨_, _, app_at ei' (by simp; omega), ?_⟩
      refine ⟨_, _, _, prs ++ [(a, c)], rfl, (A.set i).mono (by omega), ?_, by simp; omega, ?_⟩
      · rw [List.getElem?_set_self (List.getElem?_eq_some_iff.mp ei).1]
        simp [pairD]
      · intro q hq
        rcases List.mem_append.mp hq with hq | hq
        · exact hp q hq
        · rw [List.mem_singleton.mp hq]
          refine ⟨pm2.mem_iff.mp List.mem_cons_self, pm2.mem_iff.mp (List.mem_cons_of_mem _ List.mem_cons_self), fun z => ?_⟩
          have z : a = c := z
          subst z
          exact (List.nodup_cons.mp nd2).1 List.mem_cons_self
    · rintro _ h' ⟨d8, d9, js, prs, rfl, A, ei, hl, hp⟩
      have e : (Src.mk none (ups 0 t.toNat)).items.length = t.toNat := ups_len
      rw [e] at A hl
      exact ⟨d8, d9, js, prs, rfl, A.mono (by omega), ei, by omega, hp⟩
  clear A ei hl hp
  clear prs js
  rintro _ h' ⟨d8, d9, js, prs, rfl, A, ei, hl, hp⟩
  -- the roads
  refine Eq.mpr w_seq ?_
  walk_at "DL.T"
  have hj : i < js.length := (List.getElem?_eq_some_iff.mp ei).1
  refine ws_cut (fun de h' => ∃ d8 d9, ∃ m : List ((Str × Str) × Ro), de = [some (.ref p), some (.lst (ns.map .str)), some (.int many), some (.lst (fs.map .int)), some (.ref (h.length + i)), some (.int sh), some (.int t), none, d8, d9, some (.ref (h.length + js.length)), none, none] ∧ At p h (b + 15000) (js ++ [.dct true (kvs pairD Ro.d m)]) h' ∧ (m.map (·.1)).Nodup ∧ m.length ≤ many.toNat ∧ ∀ q ∈ m, q.2.k = q.1 ∧ PairOk ns q.1 ∧ q.2.use ∈ fs) ?_ ?_
  · walk_at "DL.S"
    have A2 := A.alloc (o := .dct true [])
    refine ⟨_, cut_ref ((A2.look i).trans ((List.getElem?_append_left hj).trans ei)), ?_⟩
    walk_at "DL.S"
    have ec : cutD (prs.map pairD) none (some many) = (prs.take many.toNat).map pairD := by rw [cutD_to m0, List.map_take]
    rw [ec]
    refine w_loopI (fun k de h' => ∃ d8 d9, ∃ m : List ((Str × Str) × Ro), de = [some (.ref p), some (.lst (ns.map .str)), some (.int many), some (.lst (fs.map .int)), some (.ref (h.length + i)), some (.int sh), some (.int t), none, d8, d9, some (.ref (h.length + js.length)), none, none] ∧ At p h (b + 10000 + 6 * k) (js ++ [.dct true (kvs pairD Ro.d m)]) h' ∧ (m.map (·.1)).Nodup ∧ m.length ≤ k ∧ ∀ q ∈ m, q.2.k = q.1 ∧ PairOk ns q.1 ∧ q.2.use ∈ fs) (fun _ _ _ _ => trivial) ?_ ?_ ⟨_, _, [], by rw [A.len]; rfl, A2.mono (by omega), List.nodup_nil, Nat.zero_le _, fun _ z => by cases z⟩
    · clear A A2
      rintro k x _ h' hx ⟨d8, d9, m, rfl, A, nm, hm, hq⟩
      rw [List.getElem?_map] at hx
      cases q0 : (prs.take many.toNat)[k]? with
      | none => rw [q0] at hx; cases hx
      | some q =>
        rw [q0] at hx
        cases hx
        have hk := (List.getElem?_eq_some_iff.mp q0).1
        rw [List.length_take] at hk
        have hqp := hp q (List.mem_of_mem_take (List.mem_of_getElem? q0))
        refine ⟨_, _, rfl, ?_⟩
        walk_at "DL.S"
        refine (drw_pick (by simpa using f0) (by simp; omega) (fun x hx => by
          obtain ⟨i, _, rfl⟩ := List.mem_map.mp hx
          rfl)).at P A (by omega) ?_
        rintro v h3 A hv
        obtain ⟨use, rfl, hu⟩ := mem_ints hv
        walk_at "DL.S"
        refine ⟨_, _, gsb_ok rfl rfl (setP_at (f := Ro.d) (m := m) (p := q) (v := ⟨q.1, q.2, use⟩) ((A.look js.length).trans get_last) (by omega)), ?_⟩
        have A3 := A.set (o := .dct true (kvs pairD Ro.d (st m q ⟨q.1, q.2, use⟩))) js.length
        rw [set_last] at A3
        refine ⟨_, _, _, rfl, A3.mono (by omega), st_nodup nm, by have := st_len (m := m) (a := q) (v := (⟨q.1, q.2, use⟩ : Ro)); omega, fun z hz => ?_⟩
        rcases st_mem (b := z.1) (w := z.2) hz with hz | ⟨z1, z2⟩
        · exact hq z hz
        · rw [z1, z2]
          exact ⟨rfl, hqp, hu⟩
    · rintro _ h' ⟨d8, d9, m, rfl, A, nm, hm, hq⟩
      rw [List.length_map, List.length_take] at hm A
      exact ⟨d8, d9, m, rfl, A.mono (by omega), nm, by omega, hq⟩
  clear A
  rintro _ h' ⟨d8, d9, m, rfl, A, nm, hm, hq⟩
  have em := (A.look js.length).trans get_last
  walk_at "DL.S"
  refine w_elock (i := h.length + js.length) (t := true) (kvs := kvs pairD Ro.d m) (by
    show (match h'[h.length + js.length]? with
      | some (.dct t kvs) => some (h.length + js.length, t, kvs)
      | _ => none) = _
    rw [em]) ?_
  have hl' : h.length + js.length < h'.length := (List.getElem?_eq_some_iff.mp em).1
  have el : (h'.set (h.length + js.length) (.lock true (kvs pairD Ro.d m)))[h.length + js.length]? = some (.lock true (kvs pairD Ro.d m)) := by rw [List.getElem?_set_self hl']
  walk_at "DL.S"
  refine ⟨⟨some (h.length + js.length, .lock true (kvs pairD Ro.d m)), (kvs pairD Ro.d m).map (·.1)⟩, ?_, ?_⟩
  · show (match (h'.set (h.length + js.length) (.lock true (kvs pairD Ro.d m)))[h.length + js.length]? with
      | some (.lock t kvs) => if lim kvs.length then some (⟨some (h.length + js.length, .lock t kvs), List.map (fun (q : D × D) => q.1) kvs⟩ : Src) else none
      | _ => none) = _
    rw [el]
    show (if lim (kvs pairD Ro.d m).length then _ else _) = _
    rw [if_pos (lim_of (by simp [kvs]; omega))]
  refine w_compI (fun k acc h2 => h2 = h'.set (h.length + js.length) (.lock true (kvs pairD Ro.d m)) ∧ acc = (m.take k).map fun q => q.2.d) (by rintro _ _ _ ⟨rfl, _⟩; exact el) ?_ ?_ ⟨rfl, rfl⟩
  · rintro k x _ _ hx ⟨rfl, rfl⟩
    have hx' : ((kvs pairD Ro.d m).map (·.1))[k]? = some x := hx
    unfold kvs at hx'
    rw [List.map_map, List.getElem?_map] at hx'
    cases q0 : m[k]? with
    | none => rw [q0] at hx'; cases hx'
    | some q =>
      rw [q0] at hx'
      cases hx'
      refine ⟨_, _, rfl, ?_⟩
      walk_at "DL.S"
      refine ⟨_, getP_of (f := Ro.d) (dct_lock el) (lk_mem nm (List.mem_of_getElem? q0)) (fun _ z => nomatch z), ?_⟩
      have e3 : (m.take (k + 1)).map (fun q => q.2.d) = (m.take k).map (fun q => q.2.d) ++ [q.2.d] := by
        rw [List.take_succ, q0, List.map_append]
        rfl
      rw [e3]
      exact ⟨rfl, rfl⟩
  · rintro _ _ ⟨rfl, rfl⟩
    have e4 : (m.take ((kvs pairD Ro.d m).map (·.1)).length).map (fun q => q.2.d) = (m.map (·.2)).map Ro.d := by
      rw [List.take_of_length_le (by simp [kvs]), List.map_map]
      rfl
    simp only [e4]
    refine ⟨_, by unfold unlk; rw [el], ?_⟩
    have A4 := (A.set (o := .lock true (kvs pairD Ro.d m)) js.length).set (o := .dct true (kvs pairD Ro.d m)) js.length
    walk_at "DL.S"
    refine (drw_shuffled (by simp; omega) (fun x hx => by
      obtain ⟨r, _, rfl⟩ := List.mem_map.mp hx
      exact ro_flat r) (fun x hx => by
      obtain ⟨r, hr, rfl⟩ := List.mem_map.mp hx
      obtain ⟨q, hqm, rfl⟩ := List.mem_map.mp hr
      exact ro_dat hs (by rw [(hq q hqm).1]; exact (hq q hqm).2.1))).at P A4 (by omega) ?_
    rintro _ h5 A5 ⟨ys, rfl, pm⟩
    obtain ⟨rs, rfl, pm2⟩ := perm_map pm
    obtain ⟨zs, rfl, pm3⟩ := perm_map pm2
    refine ⟨_, A5.mono (by omega), _, norm_flat (Nat.zero_le _) ?_, zs.map (·.2), rfl, ?_, ?_, ?_⟩
    · show ((zs.map (·.2)).map Ro.d).all (flatN 0 11) = true
      rw [List.all_eq_true]
      intro x hx
      obtain ⟨r, _, rfl⟩ := List.mem_map.mp hx
      exact ro_flat r
    · have : (zs.map (·.2)).map Ro.k = zs.map (·.1) := by
        rw [List.map_map]
        exact List.map_congr_left fun q hz => (hq q (pm3.mem_iff.mp hz)).1
      rw [this]
      exact (pm3.map (·.1)).nodup_iff.mpr nm
    · rw [List.length_map, pm3.length_eq]
      exact hm
    · intro r hr
      obtain ⟨q, hz, rfl⟩ := List.mem_map.mp hr
      have := hq q (pm3.mem_iff.mp hz)
      exact ⟨by rw [this.1]; exact this.2.1, this.2.2⟩

end
section
open PySem PySem.Spec PyProof.Rows L2
open SX (S S_len S_cat S_inj)
/-! ### drawn networks -/
structure Net where
  size : Int
  pls : List Pl
  rds : List Ro
def Net.d (N : Net) : D := .tup [.int N.size, .lst (N.pls.map Pl.d), .lst (N.rds.map Ro.d)]
def Net.names (N : Net) : List Str := N.pls.map (·.nm)
structure Net.Ok (N : Net) : Prop where
  s1 : 1 ≤ N.size
  s2 : N.size ≤ 10 ^ 30
  p1 : 1 ≤ N.pls.length
  p2 : N.pls.length ≤ 10
  nd : N.names.Nodup
  pk : ∀ p ∈ N.pls, p.Ok
  r2 : N.rds.length ≤ 40
  rn : (N.rds.map Ro.k).Nodup
  rk : ∀ r ∈ N.rds, PairOk N.names r.k ∧ 1 ≤ r.use ∧ r.use ≤ 10 ^ 30
theorem pl_flat {k : Nat} (p : Pl) : flatN 0 (k + 2) p.d = true := by
  obtain ⟨nm, bu, se, fe⟩ := p
  cases bu <;> cases se <;> rfl
theorem pls_flat {k : Nat} (ps : List Pl) : ∀ x ∈ ps.map Pl.d, flatN 0 (k + 2) x = true := fun x hx => by
  obtain ⟨p, _, rfl⟩ := List.mem_map.mp hx
  exact pl_flat p
theorem ros_flat {k : Nat} (ps : List Ro) : ∀ x ∈ ps.map Ro.d, flatN 0 (k + 2) x = true := fun x hx => by
  obtain ⟨p, _, rfl⟩ := List.mem_map.mp hx
  exact ro_flat p
theorem net_flat (N : Net) : flatN 0 12 N.d = true := by
  show (true && ((N.pls.map Pl.d).all (flatN 0 10) && ((N.rds.map Ro.d).all (flatN 0 10) && true))) = true
  rw [List.all_eq_true.mpr (pls_flat N.pls), List.all_eq_true.mpr (ros_flat N.rds)]
  rfl
/-- places drawn one by one -/
theorem places_ok {p : Nat} {h : Hh} {b0 b1 hi : Int} {ns : List Str} {de : Env'} {js h1 : Hh} {QL : List D → Hh → Prop} (P : Pen p h b0) (A : At p h b1 js h1) (hb : b1 + 1000 < 10 ^ 30) (hl : ns.length ≤ 10) (hn : ∀ s ∈ ns, Nm s) (i1 : 1 ≤ hi) (i2 : hi ≤ 10 ^ 30) (e0 : (de.set 8 none)[0]? = some (some (.ref p))) (e5 : (de.set 8 none)[5]? = some (some (.int hi))) (e9 : 8 < de.length)
    (q : ∀ ps : List Pl, ∀ h2, ps.map (·.nm) = ns → (∀ p ∈ ps, p.Ok) → At p h (b1 + 1000) js h2 → QL (ps.map Pl.d) h2) : WR (compL ⟨none, ns.map .str⟩ (gN 8) tYs (dCall s__law_drawn_place (dCons (dV 0) (dCons (dV 8) (dCons (dV 5) dNil)))) (kill de [8]) (ns.map .str) [] h1) QL := by
  refine w_compI (fun k acc h' => ∃ ps : List Pl, acc = ps.map Pl.d ∧ ps.map (·.nm) = ns.take k ∧ (∀ p ∈ ps, p.Ok) ∧ At p h (b1 + 100 * k) js h') (fun _ _ _ _ => trivial) ?_ ?_ ⟨[], rfl, rfl, (fun _ z => by cases z), A.mono (by omega)⟩
  · rintro k x acc h' hx ⟨ps, rfl, e, ok, A⟩
    rw [List.getElem?_map] at hx
    cases q0 : ns[k]? with
    | none => rw [q0] at hx; cases hx
    | some s =>
      rw [q0] at hx
      cases hx
      have hk := (List.getElem?_eq_some_iff.mp q0).1
      refine ⟨(de.set 8 none).set 8 (some (.str s)), h', rfl, ?_⟩
      have e0' : ((de.set 8 none).set 8 (some (.str s)))[0]? = some (some (.ref p)) := by rw [List.getElem?_set_ne (by decide)]; exact e0
      have e5' : ((de.set 8 none).set 8 (some (.str s)))[5]? = some (some (.int hi)) := by rw [List.getElem?_set_ne (by decide)]; exact e5
      have e8' : ((de.set 8 none).set 8 (some (.str s)))[8]? = some (some (.str s)) := by rw [List.getElem?_set_self (by simpa using e9)]
      rw [w_tys]
      refine ⟨fun _ => ?_, fun z => by cases z⟩
      rw [w_call, w_cons, w_v]
      refine ⟨_, e0', ?_⟩
      rw [w_cons, w_v]
      refine ⟨_, e8', ?_⟩
      rw [w_cons, w_v]
      refine ⟨_, e5', ?_⟩
      rw [w_nil]
      refine (drw_drawn_place (hn s (List.mem_of_getElem? q0)) i1 i2).at P A (by omega) ?_
      rintro _ h2 A ⟨pl, rfl, ok2, en⟩
      refine ⟨ps ++ [pl], by simp, ?_, ?_, A.mono (by omega)⟩
      · rw [List.map_append, e, List.take_succ, q0, ← en]
        rfl
      · intro z hz
        rcases List.mem_append.mp hz with hz | hz
        · exact ok z hz
        · rw [List.mem_singleton.mp hz]; exact ok2
  · rintro acc h' ⟨ps, rfl, e, ok, A⟩
    rw [List.length_map] at e A
    rw [List.take_length] at e
    exact q ps h' e ok (A.mono (by omega))
theorem drw_small {most tank : Int} (m1 : 1 ≤ most) (m2 : most ≤ 10) (t1 : 1 ≤ tank) (t2 : tank ≤ 1000000) : Drw s__law_small 30000 [.int most, .int tank] fun v => ∃ N : Net, v = N.d ∧ N.Ok ∧ N.size ≤ tank ∧ N.pls.length ≤ most.toNat := by
  intro p h b P hb
  unfold s__law_small
  rw [w_len]
  refine ⟨rfl, ?_⟩
  refine At.fin ?_
  rw [w_run]
  unfold k__law_small
  walk_at "DL.S"
  refine (drw_draw (by omega) (by omega)).at P (At.start P) (by omega) ?_
  rintro _ h2 A ⟨d1, rfl, d11, d12⟩
  walk_at "DL.S"
  refine (drw_draw (by omega) (by omega)).at P A (by omega) ?_
  rintro _ h2 A ⟨d2, rfl, d21, d22⟩
  walk_at "DL.S"
  refine (drw_some_names (by omega) (by omega)).at P A (by omega) ?_
  rintro _ h2 A ⟨ns, rfl, nl, nd, nk⟩
  walk_at "DL.W"
  refine ⟨_, pow30, ?_⟩
  walk_at "DL.S"
  refine (drw_pick (by simp) (by simp) (List.all_eq_true.mp rfl)).at P A (by omega) ?_
  rintro v h2 A hv
  obtain ⟨hi, rfl, hm⟩ := mem_ints (is := [1, 3, 9, 10 ^ 30]) hv
  have hh : 1 ≤ hi ∧ hi ≤ 10 ^ 30 := by
    simp only [List.mem_cons, List.not_mem_nil, or_false] at hm
    rcases hm with rfl | rfl | rfl | rfl <;> omega
  walk_at "DL.S"
  refine places_ok (hi := hi) P A (by omega) (by omega) nk hh.1 hh.2 rfl rfl (by simp) ?_
  rintro ps h2 en ok A
  walk_at "DL.S"
  refine (drw_draw (by omega) (by omega)).at P A (by omega) ?_
  rintro _ h2 A ⟨f1, rfl, f11, f12⟩
  walk_at "DL.S"
  refine (drw_draw (by omega) (by omega)).at P A (by omega) ?_
  rintro _ h2 A ⟨f2, rfl, f21, f22⟩
  walk_at "DL.S"
  refine (drw_draw (by omega) (by omega)).at P A (by omega) ?_
  rintro _ h2 A ⟨f3, rfl, f31, f32⟩
  walk_at "DL.S"
  refine (drw_drawn_roads (fs := [1, 1 + f1, 1 + f2, 1 + f3]) nd (by omega) (by omega) nk (by decide) (by decide) (by simp) (by simp)).at P A (by omega) ?_
  rintro _ h2 A ⟨rs, rfl, rn, rl, rk⟩
  walk_at "DL.S"
  refine ⟨_, A.mono (by omega), _, norm_flat (Nat.zero_le _) (net_flat ⟨1 + d1, ps, rs⟩), ⟨1 + d1, ps, rs⟩, rfl, ?_, ?_, ?_⟩
  · have pl : ps.length = ns.length := by have := congrArg List.length en; simpa using this
    refine ⟨by show 1 ≤ 1 + d1; omega, by show 1 + d1 ≤ _; omega, by show 1 ≤ ps.length; omega, by show ps.length ≤ 10; omega, by show (ps.map (·.nm)).Nodup; rw [en]; exact nd, ok, by show rs.length ≤ 40; have : rs.length ≤ (12 : Int).toNat := rl; have e : (12 : Int).toNat = 12 := rfl; omega, rn, fun r hr => ?_⟩
    have := rk r hr
    refine ⟨by show PairOk (ps.map (·.nm)) r.k; rw [en]; exact this.1, ?_⟩
    have hu := this.2
    simp only [List.mem_cons, List.not_mem_nil, or_false] at hu
    rcases hu with hu | hu | hu | hu <;> rw [hu] <;> omega
  · show 1 + d1 ≤ tank
    omega
  · have pl : ps.length = ns.length := by have := congrArg List.length en; simpa using this
    show ps.length ≤ most.toNat
    omega
theorem drw_great {least most : Int} (m1 : 1 ≤ least) (m2 : least ≤ most) (m3 : most ≤ 10) : Drw s__law_great 30000 [.int least, .int most] fun v => ∃ N : Net, v = N.d ∧ N.Ok := by
  intro p h b P hb
  unfold s__law_great
  rw [w_len]
  refine ⟨rfl, ?_⟩
  refine At.fin ?_
  rw [w_run]
  unfold k__law_great
  walk_at "DL.W"
  refine ⟨_, pow30, ?_⟩
  walk_at "DL.W"
  refine ⟨_, pow30, ?_⟩
  refine Eq.mpr w_nil ?_
  refine (drw_draw (by omega) (by omega)).at P (At.start P) (by omega) ?_
  rintro _ h2 A ⟨d1, rfl, d11, d12⟩
  walk_at "DL.S"
  refine (drw_draw (by omega) (by omega)).at P A (by omega) ?_
  rintro _ h2 A ⟨d2, rfl, d21, d22⟩
  walk_at "DL.S"
  refine (drw_pick (by simp) (by simp) (List.all_eq_true.mp rfl)).at P A (by omega) ?_
  rintro v h2 A hv
  obtain ⟨z, rfl, hm⟩ := mem_ints (is := [10 ^ 30, 1 + d1, 1 + d2]) hv
  have hz : 1 ≤ z ∧ z ≤ 10 ^ 30 := by
    simp only [List.mem_cons, List.not_mem_nil, or_false] at hm
    rcases hm with rfl | rfl | rfl <;> omega
  walk_at "DL.S"
  refine (drw_draw (by omega) (by omega)).at P A (by omega) ?_
  rintro _ h2 A ⟨d3, rfl, d31, d32⟩
  walk_at "DL.S"
  refine (drw_some_names (by omega) (by omega)).at P A (by omega) ?_
  rintro _ h2 A ⟨ns, rfl, nl, nd, nk⟩
  walk_at "DL.W"
  refine ⟨_, pow30, ?_⟩
  walk_at "DL.S"
  refine (drw_pick (by simp) (by simp) (List.all_eq_true.mp rfl)).at P A (by omega) ?_
  rintro v h2 A hv
  obtain ⟨hi, rfl, hm⟩ := mem_ints (is := [9, 1000, 10 ^ 30]) hv
  have hh : 1 ≤ hi ∧ hi ≤ 10 ^ 30 := by
    simp only [List.mem_cons, List.not_mem_nil, or_false] at hm
    rcases hm with rfl | rfl | rfl <;> omega
  walk_at "DL.S"
  refine places_ok (hi := hi) P A (by omega) (by omega) nk hh.1 hh.2 rfl rfl (by simp) ?_
  rintro ps h2 en ok A
  walk_at "DL.S"
  refine (drw_draw (by omega) (by omega)).at P A (by omega) ?_
  rintro _ h2 A ⟨f1, rfl, f11, f12⟩
  walk_at "DL.S"
  refine (drw_draw (by omega) (by omega)).at P A (by omega) ?_
  rintro _ h2 A ⟨f2, rfl, f21, f22⟩
  walk_at "DL.S"
  refine ⟨_, div_int (by omega) (by omega), ?_⟩
  walk_at "DL.S"
  refine (drw_draw (by omega) (by omega)).at P A (by omega) ?_
  rintro _ h2 A ⟨f3, rfl, f31, f32⟩
  walk_at "DL.S"
  refine (drw_draw (by omega) (by omega)).at P A (by omega) ?_
  rintro _ h2 A ⟨f4, rfl, f41, f42⟩
  walk_at "DL.W"
  refine ⟨_, rfl, ?_⟩
  walk_at "DL.W"
  refine ⟨_, pow30, ?_⟩
  walk_at "DL.S"
  refine (drw_draw (by omega) (by omega)).at P A (by omega) ?_
  rintro _ h2 A ⟨f5, rfl, f51, f52⟩
  walk_at "DL.W"
  refine ⟨_, rfl, ?_⟩
  walk_at "DL.W"
  refine ⟨_, _, rfl, ?_⟩
  walk_at "DL.W"
  refine ⟨rfl, _, cat_lst (by simp), ?_⟩
  walk_at "DL.S"
  refine (drw_drawn_roads (fs := [1, z, 1 + f1, 1 + z / (2 + f2), if z - f3 > 1 then z - f3 else 1, 1 + f4, if z + 1 + f5 < 10 ^ 30 then z + 1 + f5 else 10 ^ 30]) nd (by omega) (by omega) nk (by decide) (by decide) (by simp) (by simp)).at P A (by omega) ?_
  rintro _ h2 A ⟨rs, rfl, rn, rl, rk⟩
  walk_at "DL.S"
  refine ⟨_, A.mono (by omega), _, norm_flat (Nat.zero_le _) (net_flat ⟨z, ps, rs⟩), ⟨z, ps, rs⟩, rfl, ?_⟩
  have pl : ps.length = ns.length := by have := congrArg List.length en; simpa using this
  refine ⟨hz.1, hz.2, by show 1 ≤ ps.length; omega, by show ps.length ≤ 10; omega, by show (ps.map (·.nm)).Nodup; rw [en]; exact nd, ok, rl, rn, fun r hr => ?_⟩
  have := rk r hr
  refine ⟨by show PairOk (ps.map (·.nm)) r.k; rw [en]; exact this.1, ?_⟩
  have hu := this.2
  have q1 : 0 ≤ z / (2 + f2) := Int.ediv_nonneg (by omega) (by omega)
  have q2 : z / (2 + f2) ≤ z / 2 := by
    have : z / (2 + f2) * (2 + f2) ≤ z := Int.ediv_mul_le _ (by omega)
    have : z / (2 + f2) * 2 ≤ z / (2 + f2) * (2 + f2) := Int.mul_le_mul_of_nonneg_left (by omega) q1
    omega
  simp only [List.mem_cons, List.not_mem_nil, or_false] at hu
  rcases hu with hu | hu | hu | hu | hu | hu | hu <;> rw [hu]
  · omega
  · omega
  · omega
  · omega
  · split <;> omega
  · omega
  · split <;> omega
/-! ### amounts, starts, goals -/

end
section
open PySem PySem.Spec PyProof.Rows L2
open SX (S S_len S_cat S_inj)
/-! ### functions that write nothing -/
theorem gc_pure {F : Fn} {ds : List D} {h : Hh} {v : D} (w : WR (F ds h) fun d h' => ∃ js, h' = h ++ js ∧ norm h' h.length [] 12 d = some v) : gcF (fun _ => []) F ds h = .ok v h := by
  obtain ⟨d, h', e, js, rfl, n⟩ := w.of
  unfold gcF
  rw [e]
  have c : gcC h (h ++ js) [] := gcC_app rfl fun i o e => .inl e
  simp only [c, if_true, n, mapO, List.append_nil, List.take_left]
theorem gc_pure0 {F : Fn} {ds : List D} {h : Hh} {v : D} (fl : flatN h.length 12 v = true) (w : WR (F ds h) fun d h' => h' = h ∧ d = v) : gcF (fun _ => []) F ds h = .ok v h :=
  gc_pure (w.mono fun d h' ⟨e1, e2⟩ => ⟨[], by rw [e1]; simp, by rw [e2]; exact norm_flat (Nat.le_refl _) fl⟩)
theorem wr_eq {α : Type} {r : Rs α} {a : α} {h : Hh} {Q : α → Hh → Prop} (e : r = .ok a h) (q : Q a h) : WR r Q := by rw [e]; exact q
theorem lenI_eq {n : Nat} {F : Fn} {ds : List D} {h : Hh} (e : ds.length = n) : lenI n F ds h = F ds h := by unfold lenI; rw [if_pos e]
variable {h : Hh}
theorem pu_is_integer {i : Int} : s_is_integer [.int i] h = .ok (.bl true) h := by
  unfold s_is_integer
  refine (lenI_eq rfl).trans ?_
  refine gc_pure0 rfl ?_
  rw [w_run]
  unfold k_is_integer
  walk_at "DL.S"
  first | exact ⟨rfl, rfl⟩ | rfl
theorem pu_is_between {i a b : Int} (h1 : a ≤ i) (h2 : i ≤ b) : s_is_between [.int i, .int a, .int b] h = .ok (.bl true) h := by
  unfold s_is_between
  refine (lenI_eq rfl).trans ?_
  refine gc_pure0 rfl ?_
  rw [w_run]
  unfold k_is_between
  walk_at "DL.S"
  refine wr_eq pu_is_integer ?_
  walk_at "DL.S"
  refine eq_mpr_sif (decide_eq_true h1) ?_
  walk_at "DL.S"
  rw [decide_eq_true h2]
theorem pu_is_size {i a : Int} (h1 : a ≤ i) (h2 : i ≤ 10 ^ 30) : s_is_size [.int i, .int a] h = .ok (.bl true) h := by
  unfold s_is_size
  refine (lenI_eq rfl).trans ?_
  refine gc_pure0 rfl ?_
  rw [w_run]
  unfold k_is_size
  walk_at "DL.S"
  refine wr_eq (pu_is_between h1 (by omega)) ?_
  first | exact ⟨rfl, rfl⟩ | rfl
theorem pu_is_list {xs : List D} : s_is_list [.lst xs] h = .ok (.bl true) h := by
  unfold s_is_list
  refine (lenI_eq rfl).trans ?_
  refine gc_pure0 rfl ?_
  rw [w_run]
  unfold k_is_list
  walk_at "DL.S"
  first | exact ⟨rfl, rfl⟩ | rfl
theorem pu_is_tuple_of {xs : List D} {n : Int} (e : (xs.length : Int) = n) : s_is_tuple_of [.tup xs, .int n] h = .ok (.bl true) h := by
  unfold s_is_tuple_of
  refine (lenI_eq rfl).trans ?_
  refine gc_pure0 rfl ?_
  rw [w_run]
  unfold k_is_tuple_of
  walk_at "DL.S"
  rw [decide_eq_true e]
theorem src_S {l : List Nat} (hl : l.length ≤ 1000) : srcOf h (.str (S l)) = some ⟨none, l.map fun c => D.str (S [c])⟩ := by
  show (if lim (S l).cps.size then some (Src.mk none (chars (S l))) else none) = _
  rw [if_pos (show lim (S l).cps.size = true from S_lim hl)]
  unfold chars
  rw [show (S l).cps.toList = l by simp]
theorem abc_mem {c : Nat} (hc : 97 ≤ c ∧ c ≤ 122) : c ∈ abc := List.mem_map.mpr ⟨c - 97, List.mem_range.mpr (by omega), by show 97 + (c - 97) = c; omega⟩
theorem in_abc {c : Nat} (hc : 97 ≤ c ∧ c ≤ 122) : oIn (.str (S [c])) (.str (S abc)) h = some (.bl true) := by
  refine oIn_of ?_
  show (match (S [c]).cps.toList with
    | [k] => some (decide (k ∈ (S abc).cps.toList))
    | _ => none) = _
  rw [show (S [c]).cps.toList = [c] by simp]
  show some (decide (c ∈ (S abc).cps.toList)) = _
  rw [show (S abc).cps.toList = abc by simp, decide_eq_true (abc_mem hc)]
theorem bools_true {α : Type} : ∀ xs : List α, bools (xs.map fun _ => D.bl true) = some (xs.map fun _ => true)
  | [] => rfl
  | x :: xs => by
    show (bools (xs.map fun _ => D.bl true)).map (true :: ·) = _
    rw [bools_true xs]
    rfl
theorem all_true {α : Type} (xs : List α) : bAll [.lst (xs.map fun _ => D.bl true)] h = some (.bl true, h) := by
  show ((bools (xs.map fun _ => D.bl true)).map fun bs => (D.bl (bs.all _root_.id), h)) = _
  rw [bools_true]
  simp
theorem pu_is_name {s : Str} (ok : Nm s) : s_is_name [.str s] h = .ok (.bl true) h := by
  obtain ⟨l, rfl, l1, l2, lo⟩ := ok
  unfold s_is_name
  refine (lenI_eq rfl).trans ?_
  refine gc_pure0 rfl ?_
  rw [w_run]
  unfold k_is_name
  rw [abc_eq]
  walk_at "DL.S"
  refine ⟨_, _, len_S (by omega), ?_⟩
  walk_at "DL.S"
  refine eq_mpr_sif (decide_eq_true (by omega)) ?_
  walk_at "DL.S"
  rw [decide_eq_true (show (l.length : Int) ≤ 8 by omega)]
  walk_at "DL.S"
  refine ⟨_, src_S (by omega), ?_⟩
  refine w_cmap (fun _ => .bl true) (by exact trivial) _ _ (fun x hx => ⟨_, rfl, ?_⟩) ?_
  · obtain ⟨c, hc, rfl⟩ := List.mem_map.mp hx
    rw [w_tys]
    refine ⟨rfl, rfl, ?_⟩
    walk_at "DL.W"
    exact ⟨_, in_abc (lo c hc), rfl, rfl⟩
  walk_at "DL.S"
  refine ⟨_, _, all_true _, ?_⟩
  first | exact ⟨rfl, rfl⟩ | rfl
/-! ### prices, places, roads -/
theorem oi_int {o : Option Int} (ok : Price o) : oi o = .non ∨ ∃ i, oi o = .int i ∧ 0 ≤ i ∧ i ≤ 10 ^ 30 := by
  cases o with
  | none => exact .inl rfl
  | some i => exact .inr ⟨i, rfl, ok⟩
theorem pu_is_price {o : Option Int} (ok : Price o) : s_is_price [oi o] h = .ok (.bl true) h := by
  unfold s_is_price
  refine (lenI_eq rfl).trans ?_
  refine gc_pure0 rfl ?_
  rw [w_run]
  unfold k_is_price
  cases o with
  | none =>
    show WS _ _ _
    unfold oi
    walk_at "DL.S"
    first | exact ⟨rfl, rfl⟩ | rfl
  | some i =>
    unfold oi
    walk_at "DL.S"
    refine wr_eq (pu_is_size ok.1 ok.2) ?_
    first | exact ⟨rfl, rfl⟩ | rfl
theorem in_none {b s : Option Int} : oIn .non (.tup [oi b, oi s]) h = some (.bl (b.isNone || s.isNone)) := by
  cases b <;> cases s <;> simp [oi, oIn, inD, dctOf, dp, dpL, PyData.canLay0, PyData.canLayAll0, PyData.eqv]
theorem pu_are_prices {b s : Option Int} (pb : Price b) (ps : Price s) (le : ∀ i j, b = some i → s = some j → j ≤ i) : s_are_prices [.tup [oi b, oi s]] h = .ok (.bl true) h := by
  unfold s_are_prices
  refine (lenI_eq rfl).trans ?_
  refine gc_pure0 rfl ?_
  rw [w_run]
  unfold k_are_prices
  walk_at "DL.S"
  refine wr_eq (pu_is_tuple_of rfl) ?_
  walk_at "DL.S"
  refine wr_eq (pu_is_price pb) ?_
  walk_at "DL.S"
  refine wr_eq (pu_is_price ps) ?_
  walk_at "DL.S"
  refine ⟨_, in_none, ?_⟩
  walk_at "DL.S"
  cases b with
  | none => exact ⟨fun _ => ⟨rfl, rfl⟩, fun z => by cases z⟩
  | some i =>
    cases s with
    | none => exact ⟨fun _ => ⟨rfl, rfl⟩, fun z => by cases z⟩
    | some j =>
      refine ⟨(fun z => by cases z), fun _ => ?_⟩
      unfold oi
      walk_at "DL.S"
      rw [decide_eq_true (le i j rfl rfl)]
theorem cut13 {a b c d : D} : oCut (.tup [a, b, c, d]) (some 1) (some 3) h = some (.tup [b, c]) := rfl
theorem pu_is_place {p : Pl} (ok : p.Ok) : s_is_place [p.d] h = .ok (.bl true) h := by
  unfold s_is_place
  refine (lenI_eq rfl).trans ?_
  refine gc_pure0 rfl ?_
  rw [w_run]
  unfold k_is_place Pl.d
  walk_at "DL.S"
  refine wr_eq (pu_is_tuple_of rfl) ?_
  walk_at "DL.S"
  refine wr_eq (pu_is_name ok.nm) ?_
  walk_at "DL.S"
  refine wr_eq (pu_are_prices ok.buy ok.sell ok.le) ?_
  walk_at "DL.S"
  refine wr_eq (pu_is_size ok.f0 ok.f1) ?_
  first | exact ⟨rfl, rfl⟩ | rfl
theorem ne_str {u v : Str} (hu : PyData.strOk u = true) (hv : PyData.strOk v = true) : oNeC (.str u) (.str v) h = some (.bl (!decide (u = v))) := by
  have e : eqD h (.str u) (.str v) = some (decide (u = v)) := by
    show (if (PyData.str u).canLay0 && (PyData.str v).canLay0 then some ((PyData.str u).eqv (PyData.str v)) else none) = _
    simp only [PyData.canLay0, hu, hv, Bool.and_self, if_true, PyData.eqv]
    rw [Bool.eq_iff_iff.mpr (show (u == v) = true ↔ decide (u = v) = true by simp)]
  unfold oNeC
  rw [e]
theorem dpL_strs {n : Nat} : ∀ ns : List Str, dpL (dp h n) (ns.map D.str) = some (ns.map PyData.str)
  | [] => rfl
  | s :: ns => by
    have := dpL_strs (n := n) ns
    cases n <;> simp [dpL, dp, this]
theorem lay_strs : ∀ {ns : List Str}, (∀ s ∈ ns, PyData.strOk s = true) → PyData.canLayAll0 (ns.map PyData.str) = true
  | [], _ => by simp [PyData.canLayAll0]
  | s :: ns, hs => by
    have h1 := hs s List.mem_cons_self
    have h2 := lay_strs fun z hz => hs z (List.mem_cons_of_mem _ hz)
    simp [PyData.canLayAll0, PyData.canLay0, h1, h2]
theorem any_strs {u : Str} : ∀ {ns : List Str}, ((ns.map PyData.str).any fun z => PyData.eqv z (.str u)) = decide (u ∈ ns)
  | [] => by simp
  | s :: ns => by
    have ih := any_strs (u := u) (ns := ns)
    rw [List.map_cons, List.any_cons, ih]
    simp only [PyData.eqv]
    by_cases e : u = s
    · subst e
      simp
    · have e2 : ¬ s = u := fun z => e z.symm
      simp [e, e2]
theorem in_tup {u : Str} {ns : List Str} (hu : PyData.strOk u = true) (hs : ∀ s ∈ ns, PyData.strOk s = true) : inD h (.str u) (.tup (ns.map .str)) = some (decide (u ∈ ns)) := by
  have e1 : dp h 12 (.str u) = some (.str u) := rfl
  have e2 : dp h 12 (.tup (ns.map .str)) = some (.tuple (ns.map PyData.str)) := by
    show (match dpL (dp h 11) (ns.map D.str) with
      | some ps => some (PyData.tuple ps)
      | none => none) = _
    rw [dpL_strs]
  have e3 : PyData.canLay0 (.str u) = true := by simp only [PyData.canLay0]; exact hu
  show (match dp h 12 (.str u), dp h 12 (.tup (ns.map .str)) with
      | some p, some (.list qs) => if p.canLay0 && PyData.canLayAll0 qs then some (qs.any fun z => PyData.eqv z p) else none
      | some p, some (.tuple qs) => if p.canLay0 && PyData.canLayAll0 qs then some (qs.any fun z => PyData.eqv z p) else none
      | _, _ => none) = _
  rw [e1, e2]
  show (if (PyData.canLay0 (.str u) && PyData.canLayAll0 (ns.map PyData.str)) = true then some ((ns.map PyData.str).any fun z => PyData.eqv z (.str u)) else none) = _
  rw [e3, lay_strs hs, any_strs]
  rfl
theorem pu_is_road {r : Ro} {ns : List Str} (hs : ∀ s ∈ ns, Nm s) (hk : PairOk ns r.k) (h1 : 1 ≤ r.use) (h2 : r.use ≤ 10 ^ 30) : s_is_road [r.d, .tup (ns.map .str)] h = .ok (.bl true) h := by
  obtain ⟨u, v, use⟩ := r
  have k1 : u ∈ ns := hk.1
  have k2 : v ∈ ns := hk.2.1
  have k3 : u ≠ v := hk.2.2
  have hs2 := fun s hm => (hs s hm).ok
  have g1 : 1 ≤ use := h1
  have g2 : use ≤ 10 ^ 30 := h2
  show s_is_road [.tup [.str u, .str v, .int use], .tup (ns.map .str)] h = _
  unfold s_is_road
  refine (lenI_eq rfl).trans ?_
  refine gc_pure0 rfl ?_
  rw [w_run]
  unfold k_is_road
  walk_at "DL.S"
  refine wr_eq (pu_is_tuple_of rfl) ?_
  walk_at "DL.S"
  refine wr_eq (pu_is_size g1 g2) ?_
  walk_at "DL.S"
  refine wr_eq (pu_is_name (hs _ k1)) ?_
  walk_at "DL.S"
  refine wr_eq (pu_is_name (hs _ k2)) ?_
  walk_at "DL.W"
  refine ⟨_, rfl, sif_t ?_⟩
  walk_at "DL.W"
  refine ⟨_, ne_str (hs2 _ k1) (hs2 _ k2), ?_⟩
  rw [decide_eq_false k3]
  refine ⟨_, rfl, sif_t ?_⟩
  walk_at "DL.W"
  refine ⟨_, oIn_of (in_tup (hs2 _ k1) hs2), ?_⟩
  rw [decide_eq_true k1]
  refine ⟨_, rfl, sif_t ?_⟩
  walk_at "DL.W"
  refine ⟨_, oIn_of (in_tup (hs2 _ k2) hs2), ?_⟩
  rw [decide_eq_true k2]
  first | exact ⟨rfl, rfl⟩ | rfl

end
section
open PySem PySem.Spec PyProof.Rows L2
open SX (S S_len S_cat S_inj)
variable {h : Hh}
theorem gc_pureE {F : Fn} {ds : List D} {h : Hh} {Q : D → Prop} (w : WR (F ds h) fun d h' => ∃ js v, h' = h ++ js ∧ norm h' h.length [] 12 d = some v ∧ Q v) : ∃ v, gcF (fun _ => []) F ds h = .ok v h ∧ Q v := by
  obtain ⟨d, h', e, js, v, e2, n, q⟩ := w.of
  exact ⟨v, gc_pure (by rw [e]; exact ⟨js, e2, n⟩), q⟩
/-! ### sorted -/
/-- texts, pairs of texts in order -/
abbrev SLe (a b : Str) : Prop := PySem.W.dataLe false (fun s : Str => PyData.str s) a b = true
abbrev PLe (a b : Str × Str) : Prop := PySem.W.dataLe false (fun p : Str × Str => PyData.tuple [.str p.1, .str p.2]) a b = true
theorem sle_anti {a b : Str} (h1 : SLe a b) (h2 : SLe b a) : a = b := by
  rw [SLe, PySem.W.dataLe_str] at h1 h2
  exact PySem.W.str_of_cps (Std.le_antisymm (of_decide_eq_true h1) (of_decide_eq_true h2))
/-- one order for each set of texts -/
theorem sle_eq {xs ys : List Str} (h1 : xs.Pairwise SLe) (h2 : ys.Pairwise SLe) (pm : xs.Perm ys) : xs = ys := pm.eq_of_pairwise (fun _ _ _ _ => sle_anti) h1 h2
theorem sort_any {d : D} {xs : List D} {P : PyData → Prop} (e : itemsS h d = some xs) (hl : xs.length ≤ 1000) (hd : ∀ x ∈ xs, ∃ q, dp h 12 x = some q ∧ P q) (ha : ∀ p q, P p → P q → PySem.W.alike p q = true) (hs : (∀ p, P p → srtK p = true) ∨ ∀ p, P p → srtA p = true) :
    ∃ ys, bSort [d] h = some (.lst ys, h) ∧ ys.Perm xs ∧ ys.Pairwise fun a b => PySem.W.dataLe false (datD h) a b = true := by
  have T := PySem.W.sortLe_total (PyProof.Rows.listOrd PyProof.Rows.itemOrd) false fun b : D => PySem.W.keyToks (datD h b)
  refine ⟨sortD h xs, ?_, List.mergeSort_perm _ _, List.pairwise_mergeSort T.trans (fun a b => (Bool.or_eq_true _ _).mpr (T.total a b)) xs⟩
  have hp : ∀ x ∈ xs, (dp h 12 x).isSome = true ∧ P (datD h x) := fun x hx => by
    obtain ⟨q, e, p⟩ := hd x hx
    unfold datD
    rw [e]
    exact ⟨rfl, p⟩
  have ok : sortOk h xs = true := by
    unfold sortOk
    rw [lim_of (by omega), List.all_eq_true.mpr fun x hx => (hp x hx).1, List.all_eq_true.mpr fun x hx => List.all_eq_true.mpr fun y hy => ha _ _ (hp x hx).2 (hp y hy).2]
    rcases hs with hs | hs
    · rw [List.all_eq_true.mpr fun x hx => hs _ (hp x hx).2]
      rfl
    · rw [List.all_eq_true.mpr fun x hx => hs _ (hp x hx).2]
      simp
  simp only [bSort, e, Option.bind_some, ok, if_true]
theorem sort_strs {i : Nat} {β : Type} {f : β → D} {m : List (Str × β)} (e : h[i]? = some (.dct false (kvs D.str f m))) (hl : m.length ≤ 1000) : ∃ ns : List Str, bSort [.ref i] h = some (.lst (ns.map D.str), h) ∧ ns.Perm (m.map (·.1)) ∧ ns.Pairwise SLe := by
  have e1 : itemsS h (.ref i) = some ((m.map (·.1)).map D.str) := by
    simp only [itemsS, seqOf, lstOf, e, dctOf, Option.map_some, kvs, List.map_map]
    rfl
  obtain ⟨ys, e2, pm, pw⟩ := sort_any (P := fun q => ∃ s, q = .str s) e1 (by simp; omega) (fun x hx => by
    obtain ⟨s, _, rfl⟩ := List.mem_map.mp hx
    exact ⟨_, rfl, s, rfl⟩) (by rintro _ _ ⟨a, rfl⟩ ⟨b, rfl⟩; rw [PySem.W.alike]) (.inr (by rintro _ ⟨a, rfl⟩; rfl))
  obtain ⟨zs, rfl, pz⟩ := perm_map pm
  have pw2 : zs.Pairwise fun a b => PySem.W.dataLe false (datD h) (D.str a) (D.str b) = true := List.pairwise_map.mp pw
  exact ⟨zs, e2, pz, pw2⟩
theorem sort_pairs {i : Nat} {β : Type} {f : β → D} {m : List ((Str × Str) × β)} (e : h[i]? = some (.dct true (kvs pairD f m))) (hl : m.length ≤ 1000) : ∃ ns : List (Str × Str), bSort [.ref i] h = some (.lst (ns.map pairD), h) ∧ ns.Perm (m.map (·.1)) ∧ ns.Pairwise PLe := by
  have e1 : itemsS h (.ref i) = some ((m.map (·.1)).map pairD) := by
    simp only [itemsS, seqOf, lstOf, e, dctOf, Option.map_some, kvs, List.map_map]
    rfl
  obtain ⟨ys, e2, pm, pw⟩ := sort_any (P := fun q => ∃ s t, q = .tuple [.str s, .str t]) e1 (by simp; omega) (fun x hx => by
    obtain ⟨s, _, rfl⟩ := List.mem_map.mp hx
    exact ⟨_, rfl, s.1, s.2, rfl⟩) (by rintro _ _ ⟨a, b, rfl⟩ ⟨c, d, rfl⟩; simp [PySem.W.alike, PySem.W.alikeAll]) (.inl (by rintro _ ⟨a, b, rfl⟩; rfl))
  obtain ⟨zs, rfl, pz⟩ := perm_map pm
  have pw2 : zs.Pairwise fun a b => PySem.W.dataLe false (datD h) (pairD a) (pairD b) = true := List.pairwise_map.mp pw
  exact ⟨zs, e2, pz, pw2⟩
theorem len_dct {i : Nat} {t : Bool} {k : List (D × D)} (e : h[i]? = some (.dct t k)) : bLen [.ref i] h = some (.int k.length, h) := by simp [bLen, seqOf, lstOf, e]
theorem eq_new {i : Nat} {k : List (D × D)} (e : h[i]? = some (.dct false k)) (hk : 0 < k.length) : oEqC (.ref i) (.dct false [] []) h = some (.bl false) := by
  have e1 : eqD h (.ref i) (.dct false [] []) = none := by
    unfold eqD
    have : dp h 12 (.dct false [] []) = none := rfl
    rw [this]
    cases dp h 12 (.ref i) <;> rfl
  have e2 : eqC h (.ref i) (.dct false [] []) = some false := by
    simp only [eqC, dctOf, e, Option.bind_some]
    cases k with
    | nil => simp at hk
    | cons a r => simp
  simp only [oEqC, e1, e2, Option.map_some]
theorem lk_take {ps : List Pl} {k : Nat} {p : Pl} (nd : (ps.map (·.nm)).Nodup) (e : ps[k]? = some p) : lk ((ps.take k).map fun p => (p.nm, p)) p.nm = none := by
  rw [lk_none, List.map_map]
  intro hm
  obtain ⟨q, hq, eq⟩ := List.mem_map.mp hm
  obtain ⟨j, hj⟩ := List.getElem?_of_mem hq
  have hjk := (List.getElem?_eq_some_iff.mp hj).1
  rw [List.length_take] at hjk
  rw [List.getElem?_take_of_lt (by omega)] at hj
  have e1 : (ps.map (·.nm))[j]? = some p.nm := by
    rw [List.getElem?_map, hj]
    exact congrArg some eq
  have e2 : (ps.map (·.nm))[k]? = some p.nm := by rw [List.getElem?_map, e]; rfl
  have := (List.getElem?_inj (List.getElem?_eq_some_iff.mp e1).1 nd).mp (e1.trans e2.symm)
  omega
theorem pu_checked_places {ps : List Pl} (p1 : 1 ≤ ps.length) (p2 : ps.length ≤ 10) (nd : (ps.map (·.nm)).Nodup) (ok : ∀ p ∈ ps, p.Ok) : ∃ qs : List Pl, s_checked_places [.lst (ps.map Pl.d)] h = .ok (.tup (qs.map Pl.d)) h ∧ qs.Perm ps ∧ (qs.map (·.nm)).Pairwise SLe := by
  unfold s_checked_places
  rw [show lenI 1 (gcF (fun _ => []) (runB 3 (k_checked_places s_is_list s_is_place))) [.lst (ps.map Pl.d)] h = gcF (fun _ => []) (runB 3 (k_checked_places s_is_list s_is_place)) [.lst (ps.map Pl.d)] h from lenI_eq rfl]
  suffices w : ∃ v, gcF (fun _ => []) (runB 3 (k_checked_places s_is_list s_is_place)) [.lst (ps.map Pl.d)] h = .ok v h ∧ ∃ qs : List Pl, v = .tup (qs.map Pl.d) ∧ qs.Perm ps ∧ (qs.map (·.nm)).Pairwise SLe by
    obtain ⟨v, e, qs, rfl, pm⟩ := w
    exact ⟨qs, e, pm⟩
  refine gc_pureE ?_
  rw [w_run]
  unfold k_checked_places
  walk_at "DL.S"
  refine wr_eq pu_is_list ?_
  walk_at "DL.S"
  refine w_loopI (fun k de h' => de = [some (.lst (ps.map Pl.d)), some (.ref h.length), none, none] ∧ h' = h ++ [.dct false (kvs D.str Pl.d ((ps.take k).map fun p => (p.nm, p)))]) (fun _ _ _ _ => trivial) ?_ ?_ ⟨rfl, rfl⟩
  · rintro k x _ _ hx ⟨rfl, rfl⟩
    rw [List.getElem?_map] at hx
    cases q0 : ps[k]? with
    | none => rw [q0] at hx; cases hx
    | some p =>
      rw [q0] at hx
      cases hx
      have em := get_last (xs := h) (a := AO.dct false (kvs D.str Pl.d ((ps.take k).map fun p => (p.nm, p))))
      refine ⟨_, _, rfl, ?_⟩
      walk_at "DL.S"
      refine wr_eq (pu_is_place (ok p (List.mem_of_getElem? q0))) ?_
      walk_at "DL.S"
      refine ⟨_, oIn_of (inS_of (f := Pl.d) (s := p.nm) (dct_ref em) (fun _ z => nomatch z)), ?_⟩
      rw [lk_take nd q0]
      walk_at "DL.S"
      refine ⟨_, _, gsb_ok rfl rfl (setS_at (f := Pl.d) (s := p.nm) (v := p) em (by simp; omega)), ?_⟩
      refine ⟨rfl, ?_⟩
      rw [set_last]
      have e1 : st ((ps.take k).map fun p => (p.nm, p)) p.nm p = (ps.take (k + 1)).map fun p => (p.nm, p) := by
        unfold st
        rw [lk_take nd q0, List.take_succ, q0, List.map_append]
        rfl
      rw [e1]
  · rintro _ _ ⟨rfl, rfl⟩
    rw [List.length_map, List.take_length]
    have em := get_last (xs := h) (a := AO.dct false (kvs D.str Pl.d (ps.map fun p => (p.nm, p))))
    generalize hh : h ++ [AO.dct false (kvs D.str Pl.d (ps.map fun p => (p.nm, p)))] = h2 at em
    walk_at "DL.S"
    refine ⟨_, eq_new em (by simp [kvs]; omega), ?_⟩
    walk_at "DL.S"
    refine ⟨_, _, len_dct em, ?_⟩
    walk_at "DL.S"
    rw [decide_eq_false (show ¬ (10 : Int) < (kvs D.str Pl.d (ps.map fun p => (p.nm, p))).length by simp [kvs]; omega)]
    walk_at "DL.S"
    obtain ⟨ns, es, pn, pw⟩ := sort_strs (h := h2) em (by simp; omega)
    refine ⟨_, _, es, ?_⟩
    rw [List.map_map] at pn
    obtain ⟨qs, rfl, pq⟩ := perm_map pn
    walk_at "DL.S"
    refine w_compI (fun k acc h3 => h3 = h2 ∧ acc = (qs.take k).map Pl.d) (fun _ _ _ _ => trivial) ?_ ?_ ⟨rfl, rfl⟩
    · rintro k x _ _ hx ⟨rfl, rfl⟩
      have hx' : ((qs.map ((·.1) ∘ fun p : Pl => (p.nm, p))).map D.str)[k]? = some x := hx
      rw [List.map_map, List.getElem?_map] at hx'
      cases q0 : qs[k]? with
      | none => rw [q0] at hx'; cases hx'
      | some p =>
        rw [q0] at hx'
        cases hx'
        refine ⟨_, _, rfl, ?_⟩
        walk_at "DL.S"
        refine ⟨_, getS_of (f := Pl.d) (s := p.nm) (v := p) (dct_ref em) (lk_mem (by rw [List.map_map]; exact nd) (List.mem_map.mpr ⟨p, pq.mem_iff.mp (List.mem_of_getElem? q0), rfl⟩)) (fun _ z => nomatch z), ?_⟩
        rw [List.take_succ, q0, List.map_append]
        exact ⟨rfl, rfl⟩
    · rintro _ _ ⟨rfl, rfl⟩
      walk_at "DL.S"
      refine ⟨[_], _, hh.symm, norm_flat (Nat.zero_le _) ?_, qs, ?_, pq, pw⟩
      · exact List.all_eq_true.mpr (pls_flat _)
      · rw [List.take_of_length_le (by simp)]
theorem cutR {r : Ro} : oCut r.d none (some 2) h = some (pairD r.k) := rfl
theorem lk_takeR {rs : List Ro} {k : Nat} {r : Ro} (nd : (rs.map Ro.k).Nodup) (e : rs[k]? = some r) : lk ((rs.take k).map fun p => (p.k, p)) r.k = none := by
  rw [lk_none, List.map_map]
  intro hm
  obtain ⟨q, hq, eq⟩ := List.mem_map.mp hm
  obtain ⟨j, hj⟩ := List.getElem?_of_mem hq
  have hjk := (List.getElem?_eq_some_iff.mp hj).1
  rw [List.length_take] at hjk
  rw [List.getElem?_take_of_lt (by omega)] at hj
  have e1 : (rs.map Ro.k)[j]? = some r.k := by
    rw [List.getElem?_map, hj]
    exact congrArg some eq
  have e2 : (rs.map Ro.k)[k]? = some r.k := by rw [List.getElem?_map, e]; rfl
  have := (List.getElem?_inj (List.getElem?_eq_some_iff.mp e1).1 nd).mp (e1.trans e2.symm)
  omega
theorem pu_checked_roads {rs : List Ro} {ns : List Str} (hs : ∀ s ∈ ns, Nm s) (r2 : rs.length ≤ 40) (nd : (rs.map Ro.k).Nodup) (ok : ∀ r ∈ rs, PairOk ns r.k ∧ 1 ≤ r.use ∧ r.use ≤ 10 ^ 30) : ∃ qs : List Ro, s_checked_roads [.lst (rs.map Ro.d), .tup (ns.map .str)] h = .ok (.tup (qs.map Ro.d)) h ∧ qs.Perm rs ∧ (qs.map Ro.k).Pairwise PLe := by
  unfold s_checked_roads
  rw [show lenI 2 (gcF (fun _ => []) (runB 3 (k_checked_roads s_is_list s_is_road))) [.lst (rs.map Ro.d), .tup (ns.map .str)] h = gcF (fun _ => []) (runB 3 (k_checked_roads s_is_list s_is_road)) [.lst (rs.map Ro.d), .tup (ns.map .str)] h from lenI_eq rfl]
  suffices w : ∃ v, gcF (fun _ => []) (runB 3 (k_checked_roads s_is_list s_is_road)) [.lst (rs.map Ro.d), .tup (ns.map .str)] h = .ok v h ∧ ∃ qs : List Ro, v = .tup (qs.map Ro.d) ∧ qs.Perm rs ∧ (qs.map Ro.k).Pairwise PLe by
    obtain ⟨v, e, qs, rfl, pm⟩ := w
    exact ⟨qs, e, pm⟩
  refine gc_pureE ?_
  rw [w_run]
  unfold k_checked_roads
  walk_at "DL.S"
  refine wr_eq pu_is_list ?_
  walk_at "DL.S"
  refine w_loopI (fun k de h' => de = [some (.lst (rs.map Ro.d)), some (.tup (ns.map .str)), some (.ref h.length), none, none] ∧ h' = h ++ [.dct true (kvs pairD Ro.d ((rs.take k).map fun p => (p.k, p)))]) (fun _ _ _ _ => trivial) ?_ ?_ ⟨rfl, rfl⟩
  · rintro k x _ _ hx ⟨rfl, rfl⟩
    rw [List.getElem?_map] at hx
    cases q0 : rs[k]? with
    | none => rw [q0] at hx; cases hx
    | some r =>
      rw [q0] at hx
      cases hx
      have em := get_last (xs := h) (a := AO.dct true (kvs pairD Ro.d ((rs.take k).map fun p => (p.k, p))))
      have ok1 := ok r (List.mem_of_getElem? q0)
      refine ⟨_, _, rfl, ?_⟩
      walk_at "DL.S"
      refine wr_eq (pu_is_road hs ok1.1 ok1.2.1 ok1.2.2) ?_
      walk_at "DL.W"
      refine ⟨_, rfl, sif_f ?_⟩
      walk_at "DL.W"
      refine ⟨_, rfl, ?_⟩
      refine ⟨_, cutR, ?_⟩
      walk_at "DL.W"
      refine ⟨_, oIn_of (inP_of (f := Ro.d) (s := r.k) (dct_ref em) (fun _ z => nomatch z)), ?_⟩
      rw [lk_takeR nd q0]
      refine ⟨_, rfl, sif_f ?_⟩
      walk_at "DL.W"
      refine ⟨_, _, gsb_ok rfl rfl (setP_at (f := Ro.d) (p := r.k) (v := r) em (by simp; omega)), ?_⟩
      refine ⟨rfl, ?_⟩
      rw [set_last]
      have e1 : st ((rs.take k).map fun p => (p.k, p)) r.k r = (rs.take (k + 1)).map fun p => (p.k, p) := by
        unfold st
        rw [lk_takeR nd q0, List.take_succ, q0, List.map_append]
        rfl
      rw [e1]
  · rintro _ _ ⟨rfl, rfl⟩
    rw [List.length_map, List.take_length]
    have em := get_last (xs := h) (a := AO.dct true (kvs pairD Ro.d (rs.map fun p => (p.k, p))))
    generalize hh : h ++ [AO.dct true (kvs pairD Ro.d (rs.map fun p => (p.k, p)))] = h2 at em
    walk_at "DL.S"
    refine ⟨_, _, len_dct em, ?_⟩
    walk_at "DL.S"
    rw [decide_eq_false (show ¬ (40 : Int) < (kvs pairD Ro.d (rs.map fun p => (p.k, p))).length by simp [kvs]; omega)]
    walk_at "DL.S"
    obtain ⟨ns2, es, pn, pw⟩ := sort_pairs (h := h2) em (by simp; omega)
    refine ⟨_, _, es, ?_⟩
    rw [List.map_map] at pn
    obtain ⟨qs, rfl, pq⟩ := perm_map pn
    walk_at "DL.S"
    refine w_compI (fun k acc h3 => h3 = h2 ∧ acc = (qs.take k).map Ro.d) (fun _ _ _ _ => trivial) ?_ ?_ ⟨rfl, rfl⟩
    · rintro k x _ _ hx ⟨rfl, rfl⟩
      have hx' : ((qs.map ((·.1) ∘ fun p : Ro => (p.k, p))).map pairD)[k]? = some x := hx
      rw [List.map_map, List.getElem?_map] at hx'
      cases q0 : qs[k]? with
      | none => rw [q0] at hx'; cases hx'
      | some p =>
        rw [q0] at hx'
        cases hx'
        refine ⟨_, _, rfl, ?_⟩
        walk_at "DL.S"
        refine ⟨_, getP_of (f := Ro.d) (s := p.k) (v := p) (dct_ref em) (lk_mem (by rw [List.map_map]; exact nd) (List.mem_map.mpr ⟨p, pq.mem_iff.mp (List.mem_of_getElem? q0), rfl⟩)) (fun _ z => nomatch z), ?_⟩
        rw [List.take_succ, q0, List.map_append]
        exact ⟨rfl, rfl⟩
    · rintro _ _ ⟨rfl, rfl⟩
      walk_at "DL.S"
      refine ⟨[_], _, hh.symm, norm_flat (Nat.zero_le _) ?_, qs, ?_, pq, pw⟩
      · exact List.all_eq_true.mpr (ros_flat _)
      · rw [List.take_of_length_le (by simp)]
/-! ### the network's object -/
def netO (N : Net) : AO := .ins 0 [(0, .int N.size), (1, .tup (N.pls.map Pl.d)), (2, .tup (N.names.map .str)), (3, .dct false (N.names.map .str) (N.pls.map Pl.d)), (4, .tup (N.rds.map Ro.d))]
structure Same (M N : Net) : Prop where
  size : M.size = N.size
  pls : M.pls.Perm N.pls
  rds : M.rds.Perm N.rds
/-- places and roads stand in order -/
structure Srt (M : Net) : Prop where
  nm : M.names.Pairwise SLe
  rk : (M.rds.map Ro.k).Pairwise PLe
theorem ins_at {i c : Nat} {fs : List (Nat × D)} (e : h[i]? = some (.ins c fs)) : insOf h (.ref i) = some (i, c, fs) := by simp [insOf, e]
theorem flat_nr {m n : Nat} (hm : m ≤ n) : ∀ {k : Nat} {d : D}, flatN m k d = true → D.nr n d
  | 0, d, e => by cases e
  | k + 1, d, e => by
    have lists : ∀ xs : List D, xs.all (flatN m k) = true → D.nrL n xs := by
      intro xs
      induction xs with
      | nil => intro _; unfold D.nrL; trivial
      | cons x xs ih =>
        intro e
        rw [List.all_cons, Bool.and_eq_true] at e
        unfold D.nrL
        exact ⟨flat_nr hm e.1, ih e.2⟩
    cases d with
    | tup xs => unfold D.nr; exact lists xs e
    | lst xs => unfold D.nr; exact lists xs e
    | dct t ys xs => unfold D.nr; exact lists xs e
    | ref i =>
      have : i < m := Nat.blt_eq.mp e
      unfold D.nr
      omega
    | _ => unfold D.nr; trivial
theorem net_nr (M : Net) (n : Nat) : (netO M).nr n := by
  have f1 : flatN 0 12 (.tup (M.pls.map Pl.d)) = true := List.all_eq_true.mpr (pls_flat _)
  have f2 : flatN 0 12 (.tup (M.names.map .str)) = true := List.all_eq_true.mpr strs_flat
  have f3 : flatN 0 12 (.dct false (M.names.map .str) (M.pls.map Pl.d)) = true := List.all_eq_true.mpr (pls_flat _)
  have f4 : flatN 0 12 (.tup (M.rds.map Ro.d)) = true := List.all_eq_true.mpr (ros_flat _)
  show D.nrL n [.int M.size, .tup (M.pls.map Pl.d), .tup (M.names.map .str), .dct false (M.names.map .str) (M.pls.map Pl.d), .tup (M.rds.map Ro.d)]
  unfold D.nrL
  refine ⟨by unfold D.nr; trivial, ?_⟩
  unfold D.nrL
  refine ⟨flat_nr (Nat.zero_le _) f1, ?_⟩
  unfold D.nrL
  refine ⟨flat_nr (Nat.zero_le _) f2, ?_⟩
  unfold D.nrL
  refine ⟨flat_nr (Nat.zero_le _) f3, ?_⟩
  unfold D.nrL
  refine ⟨flat_nr (Nat.zero_le _) f4, ?_⟩
  unfold D.nrL
  trivial
theorem gc_set {F : Fn} {ds : List D} {i : Nat} {o : AO} (hn : o.nr h.length) (e : F ds h = .ok .non (h.set i o)) : gcF (fun _ => []) F ds h = .ok .non (h.set i o) := by
  unfold gcF
  rw [e]
  have c : gcC h (h.set i o) [] := by
    refine ⟨by simp, fun j u hj eu => ?_, List.nodup_nil, fun _ z => by cases z⟩
    by_cases q : j = i
    · subst q
      rw [List.getElem?_set_self hj] at eu
      cases eu
      exact .inr hn
    · rw [List.getElem?_set_ne (fun z => q z.symm)] at eu
      exact .inl eu
  simp only [c, if_true, mapO, show norm (h.set i o) h.length [] 12 D.non = some D.non from rfl]
  rw [List.append_nil, show (h.set i o).take h.length = h.set i o by rw [List.take_of_length_le (by simp)]]
theorem attr_at {i c f : Nat} {fs : List (Nat × D)} {y : D} (e : h[i]? = some (.ins c fs)) (e2 : lookF fs f = some y) : ((insOf h (.ref i)).bind fun p => lookF p.2.2 f) = some y := by rw [ins_at e]; exact e2
def nmOf : D → D
  | .tup (a :: _) => a
  | d => d
theorem nmOf_pls (ps : List Pl) : (ps.map Pl.d).map nmOf = (ps.map (·.nm)).map .str := by rw [List.map_map, List.map_map]; rfl
theorem pu_new_Network {N : Net} (ok : N.Ok) {i : Nat} (ei : h[i]? = some (.ins 0 [])) : ∃ M, s_new_Network [.ref i, .int N.size, .lst (N.pls.map Pl.d), .lst (N.rds.map Ro.d)] h = .ok .non (h.set i (netO M)) ∧ Same M N ∧ Srt M := by
  have hi : i < h.length := (List.getElem?_eq_some_iff.mp ei).1
  have gs : ∀ o, (h.set i o)[i]? = some o := fun o => by rw [List.getElem?_set_self hi]
  unfold s_new_Network
  rw [show lenI 4 (gcF (fun _ => []) (runB 1 (k_new_Network s_is_size s_checked_places s_checked_roads))) [.ref i, .int N.size, .lst (N.pls.map Pl.d), .lst (N.rds.map Ro.d)] h = gcF (fun _ => []) (runB 1 (k_new_Network s_is_size s_checked_places s_checked_roads)) [.ref i, .int N.size, .lst (N.pls.map Pl.d), .lst (N.rds.map Ro.d)] h from lenI_eq rfl]
  suffices w : ∃ M, WR (runB 1 (k_new_Network s_is_size s_checked_places s_checked_roads) [.ref i, .int N.size, .lst (N.pls.map Pl.d), .lst (N.rds.map Ro.d)] h) (fun d h' => d = .non ∧ h' = h.set i (netO M)) ∧ Same M N ∧ Srt M by
    obtain ⟨M, w, sm⟩ := w
    refine ⟨M, ?_, sm⟩
    obtain ⟨d, h', e, rfl, rfl⟩ := w.of
    exact gc_set (net_nr M _) e
  obtain ⟨ps, ep, pp, pw⟩ := pu_checked_places (h := h.set i (.ins 0 [(0, .int N.size)])) ok.p1 ok.p2 ok.nd ok.pk
  have pn : (ps.map (·.nm)).Perm N.names := pp.map _
  have hs : ∀ s ∈ ps.map (·.nm), Nm s := fun s hs => by
    obtain ⟨p, hp, rfl⟩ := List.mem_map.mp hs
    exact (ok.pk p (pp.mem_iff.mp hp)).nm
  have ndp : (ps.map (·.nm)).Nodup := pn.nodup_iff.mpr ok.nd
  obtain ⟨rs, er, pr, rw'⟩ := pu_checked_roads (h := h.set i (.ins 0 [(0, .int N.size), (1, .tup (ps.map Pl.d)), (2, .tup ((ps.map (·.nm)).map .str)), (3, .dct false ((ps.map (·.nm)).map .str) (ps.map Pl.d))])) hs ok.r2 ok.rn fun r hr => by
    obtain ⟨k1, k2⟩ := ok.rk r hr
    exact ⟨⟨pn.mem_iff.mpr k1.1, pn.mem_iff.mpr k1.2.1, k1.2.2⟩, k2⟩
  refine ⟨⟨N.size, ps, rs⟩, ?_, ⟨rfl, pp, pr⟩, pw, rw'⟩
  rw [w_run]
  unfold k_new_Network
  walk_at "DL.S"
  refine wr_eq (pu_is_size ok.s1 ok.s2) ?_
  walk_at "DL.S"
  refine ⟨_, _, _, ins_at ei, by simp, ?_⟩
  walk_at "DL.S"
  refine wr_eq ep ?_
  walk_at "DL.S"
  refine ⟨_, _, _, ins_at (gs _), by simp, ?_⟩
  rw [List.set_set, show setF [(0, D.int N.size)] 1 (D.tup (List.map Pl.d ps)) = [(0, .int N.size), (1, .tup (ps.map Pl.d))] from rfl]
  walk_at "DL.S"
  refine ⟨_, attr_at (gs _) rfl, ?_⟩
  walk_at "DL.S"
  refine w_cmap nmOf (by exact trivial) _ _ (fun x hx => ⟨_, rfl, ?_⟩) ?_
  · obtain ⟨p, _, rfl⟩ := List.mem_map.mp hx
    rw [w_tys]
    refine ⟨rfl, rfl, ?_⟩
    walk_at "DL.S"
    first | exact ⟨rfl, rfl⟩ | rfl
  rw [List.nil_append, nmOf_pls]
  walk_at "DL.S"
  refine ⟨_, _, _, ins_at (gs _), by simp, ?_⟩
  rw [List.set_set, show setF [(0, D.int N.size), (1, D.tup (List.map Pl.d ps))] 2 (D.tup (List.map D.str (List.map (fun x => x.nm) ps))) = [(0, .int N.size), (1, .tup (ps.map Pl.d)), (2, .tup ((ps.map (·.nm)).map .str))] from rfl]
  walk_at "DL.S"
  refine ⟨_, attr_at (gs _) rfl, ?_⟩
  walk_at "DL.S"
  generalize eh : h.set i (.ins 0 [(0, D.int N.size), (1, D.tup (List.map Pl.d ps)), (2, D.tup (List.map D.str (List.map (fun x => x.nm) ps)))]) = hx
  refine w_cdict (fun rest acc h2 => h2 = hx ∧ ∃ k, (ps.drop k).map Pl.d = rest ∧ acc = kvs D.str Pl.d ((ps.take k).map fun p => (p.nm, p))) (by intros; exact trivial) ?_ ?_ _ _ _ ⟨rfl, 0, rfl, rfl⟩
  · rintro x xs _ _ ⟨rfl, k, ek, rfl⟩
    cases q0 : ps.drop k with
    | nil => rw [q0] at ek; cases ek
    | cons p r =>
      rw [q0] at ek
      rw [List.map_cons] at ek
      injection ek with e1 e2
      subst e1
      obtain ⟨q1, q2, q3⟩ := drop_cons q0
      refine ⟨_, _, rfl, ?_⟩
      rw [w_tys]
      refine sif_t ?_
      walk_at "DL.S"
      refine ⟨k + 1, by rw [q2]; exact e2, ?_⟩
      rw [putP_kvs (kd := D.str) (f := Pl.d) kdS (a := p.nm) (v := p)]
      unfold st
      rw [lk_take ndp q1, List.take_succ, q1, List.map_append]
      rfl
  · rintro _ _ ⟨rfl, k, ek, rfl⟩
    have hk : ps.length ≤ k := by
      have := congrArg List.length ek
      simp at this
      omega
    rw [List.take_of_length_le hk]
    subst eh
    walk_at "DL.S"
    refine ⟨_, _, _, ins_at (gs _), by simp, ?_⟩
    have e1 : (kvs D.str Pl.d (ps.map fun p => (p.nm, p))).map (·.1) = (ps.map (·.nm)).map .str := by simp [kvs]
    have e2 : (kvs D.str Pl.d (ps.map fun p => (p.nm, p))).map (·.2) = ps.map Pl.d := by simp [kvs]
    rw [List.set_set, e1, e2, show setF [(0, D.int N.size), (1, D.tup (List.map Pl.d ps)), (2, D.tup (List.map D.str (List.map (fun x => x.nm) ps)))] 3 (D.dct false (List.map D.str (List.map (fun x => x.nm) ps)) (List.map Pl.d ps)) = [(0, .int N.size), (1, .tup (ps.map Pl.d)), (2, .tup ((ps.map (·.nm)).map .str)), (3, .dct false ((ps.map (·.nm)).map .str) (ps.map Pl.d))] from rfl]
    walk_at "DL.S"
    refine ⟨_, attr_at (gs _) rfl, ?_⟩
    walk_at "DL.S"
    refine wr_eq er ?_
    walk_at "DL.S"
    refine ⟨_, _, _, ins_at (gs _), by simp, ?_⟩
    refine ⟨rfl, ?_⟩
    rw [List.set_set]
    rfl
theorem normF_flat {n : Nat} {ks : List Nat} {k : Nat} : ∀ {fs : List (Nat × D)}, (∀ p ∈ fs, flatN 0 k p.2 = true) → normF h n ks k fs = some fs
  | [], _ => rfl
  | p :: fs, hf => by
    have ih := normF_flat (n := n) (ks := ks) (fs := fs) fun q hq => hf q (List.mem_cons_of_mem _ hq)
    unfold normF at ih ⊢
    unfold mapO
    rw [ih, norm_flat (Nat.zero_le _) (hf p List.mem_cons_self)]
    rfl
theorem pu_madeS {N : Net} (ok : N.Ok) : ∃ M, s__law_made [N.d] h = .ok (.ref h.length) (h ++ [netO M]) ∧ Same M N ∧ Srt M := by
  obtain ⟨M, e, sm⟩ := pu_new_Network (h := h ++ [.ins 0 []]) (i := h.length) ok get_last
  refine ⟨M, ?_, sm⟩
  unfold s__law_made
  refine (lenI_eq rfl).trans ?_
  have w : WR (runB 0 (k__law_made s_new_Network) [N.d] h) fun d h' => d = .ref h.length ∧ h' = h ++ [netO M] := by
    rw [w_run]
    unfold k__law_made Net.d
    walk_at "DL.S"
    refine wr_eq e ?_
    rw [set_last]
    exact ⟨rfl, rfl, rfl⟩
  obtain ⟨d, h', e2, rfl, rfl⟩ := w.of
  unfold gcF
  rw [e2]
  have c : gcC h (h ++ [netO M]) [h.length] := by
    refine ⟨by simp, fun j u hj eu => ?_, by simp, fun k hk => ?_⟩
    · rw [List.getElem?_append_left hj] at eu
      exact .inl eu
    · rw [List.mem_singleton.mp hk]
      simp
  have n1 : norm (h ++ [netO M]) h.length [h.length] 12 (.ref h.length) = some (.ref h.length) := by
    show (if h.length < h.length then some (D.ref h.length) else match ([h.length]).findIdx? (· == h.length) with
      | some j => some (.ref (h.length + j))
      | none => _) = _
    rw [if_neg (by omega)]
    simp
  have n2 : mapO (fun k => ((h ++ [netO M])[k]?).bind (normO (h ++ [netO M]) h.length [h.length] 12)) [h.length] = some [netO M] := by
    unfold mapO
    rw [get_last]
    have : normO (h ++ [netO M]) h.length [h.length] 12 (netO M) = some (netO M) := by
      show (normF (h ++ [netO M]) h.length [h.length] 12 _).map (AO.ins 0) = _
      rw [normF_flat]
      · rfl
      · intro p hp
        simp only [List.mem_cons, List.not_mem_nil, or_false] at hp
        rcases hp with rfl | rfl | rfl | rfl | rfl
        · rfl
        · exact List.all_eq_true.mpr (pls_flat _)
        · exact List.all_eq_true.mpr strs_flat
        · exact List.all_eq_true.mpr (pls_flat _)
        · exact List.all_eq_true.mpr (ros_flat _)
    rw [Option.bind_some, this]
    rfl
  simp only [c, if_true, n1, n2, List.take_left]
theorem pu_made {N : Net} (ok : N.Ok) : ∃ M, s__law_made [N.d] h = .ok (.ref h.length) (h ++ [netO M]) ∧ Same M N := by
  obtain ⟨M, e, sm, _⟩ := pu_madeS (h := h) ok
  exact ⟨M, e, sm⟩

end
section
open PySem PySem.Spec PyProof.Rows L2
section
variable {h : Hh}
def Net.tab (M : Net) : List (Str × Pl) := M.pls.map fun p => (p.nm, p)
theorem tab_frz (M : Net) : dctOf h (.dct false (M.names.map .str) (M.pls.map Pl.d)) = some (false, kvs D.str Pl.d M.tab) := by
  have := dct_frz (h := h) (t := false) (kd := D.str) (f := Pl.d) (m := M.tab)
  have e1 : (kvs D.str Pl.d M.tab).map (·.1) = M.names.map .str := by simp [kvs, Net.tab, Net.names]
  have e2 : (kvs D.str Pl.d M.tab).map (·.2) = M.pls.map Pl.d := by simp [kvs, Net.tab]
  rw [e1, e2] at this
  exact this
theorem tab_lk {M : Net} (ok : M.Ok) {p : Pl} (hp : p ∈ M.pls) : lk M.tab p.nm = some p := lk_mem (by
  unfold Net.tab
  rw [List.map_map]
  exact ok.nd) (List.mem_map.mpr ⟨p, hp, rfl⟩)
theorem Net.Ok.nms {M : Net} (ok : M.Ok) : ∀ s ∈ M.names, Nm s := fun s hs => by
  obtain ⟨p, hp, rfl⟩ := List.mem_map.mp hs
  exact (ok.pk p hp).nm
end
theorem Same.symm {M N : Net} (sm : Same M N) : Same N M := ⟨sm.size.symm, sm.pls.symm, sm.rds.symm⟩
theorem Same.names {M N : Net} (sm : Same M N) : M.names.Perm N.names := sm.pls.map _
theorem Same.ok {M N : Net} (sm : Same M N) (ok : N.Ok) : M.Ok where
  s1 := by rw [sm.size]; exact ok.s1
  s2 := by rw [sm.size]; exact ok.s2
  p1 := by rw [sm.pls.length_eq]; exact ok.p1
  p2 := by rw [sm.pls.length_eq]; exact ok.p2
  nd := sm.names.nodup_iff.mpr ok.nd
  pk := fun p hp => ok.pk p (sm.pls.mem_iff.mp hp)
  r2 := by rw [sm.rds.length_eq]; exact ok.r2
  rn := (sm.rds.map _).nodup_iff.mpr ok.rn
  rk := fun r hr => by
    obtain ⟨k, u⟩ := ok.rk r (sm.rds.mem_iff.mp hr)
    exact ⟨⟨sm.names.mem_iff.mpr k.1, sm.names.mem_iff.mpr k.2.1, k.2.2⟩, u⟩
theorem pl_of {M : Net} {s : Str} (hs : s ∈ M.names) : ∃ p ∈ M.pls, p.nm = s := by
  obtain ⟨p, hp, e⟩ := List.mem_map.mp hs
  exact ⟨p, hp, e⟩
theorem pl_eq {M : Net} (ok : M.Ok) {p q : Pl} (hp : p ∈ M.pls) (hq : q ∈ M.pls) (e : p.nm = q.nm) : p = q := by
  have h1 := tab_lk ok hp
  have h2 := tab_lk ok hq
  rw [e, h2] at h1
  exact (Option.some.inj h1).symm
abbrev keepF : D → List Nat := fun d => match d with | .ref i => [i] | _ => []

end
section
open PySem PySem.Spec PyProof.Rows L2
variable {h : Hh}
section
variable {M : Net} {i : Nat}
theorem pu_need_place (ok : M.Ok) (e : h[i]? = some (netO M)) {s : Str} (hs : s ∈ M.names) : s_m_need_place [.ref i, .str s] h = .ok .non h := by
  unfold s_m_need_place
  refine (lenI_eq rfl).trans ?_
  refine gc_pure0 rfl ?_
  rw [w_run]
  unfold k_m_need_place
  walk_at "DL.S"
  refine wr_eq (pu_is_name (ok.nms s hs)) ?_
  walk_at "DL.S"
  refine ⟨_, attr_at e rfl, ?_⟩
  refine ⟨_, oNin_of (in_tup (ok.nms s hs).ok fun z hz => (ok.nms z hz).ok), ?_⟩
  rw [decide_eq_true hs]
  walk_at "DL.S"
  first | exact ⟨rfl, rfl⟩ | rfl
end

end
section
open PySem PySem.Spec PyProof.Rows L2
variable {h : Hh}
theorem eq_str {u v : Str} (hu : PyData.strOk u = true) (hv : PyData.strOk v = true) : oEqC (.str u) (.str v) h = some (.bl (decide (u = v))) := by
  have e : eqD h (.str u) (.str v) = some (decide (u = v)) := by
    show (if (PyData.str u).canLay0 && (PyData.str v).canLay0 then some ((PyData.str u).eqv (PyData.str v)) else none) = _
    simp only [PyData.canLay0, hu, hv, Bool.and_self, if_true, PyData.eqv]
    rw [Bool.eq_iff_iff.mpr (show (u == v) = true ↔ decide (u = v) = true by simp)]
  unfold oEqC
  rw [e]
theorem ne_int {a b : Int} : oNeC (.int a) (.int b) h = some (.bl (!decide (a = b))) := by
  have e : eqD h (.int a) (.int b) = some (decide (a = b)) := by
    show (if (PyData.int a).canLay0 && (PyData.int b).canLay0 then some ((PyData.int a).eqv (PyData.int b)) else none) = _
    simp only [PyData.canLay0, Bool.and_self, if_true, PyData.eqv]
    rw [Bool.eq_iff_iff.mpr (show (a == b) = true ↔ decide (a = b) = true by simp)]
  unfold oNeC
  rw [e]
theorem ne_bl {a b : Bool} : oNeC (.bl a) (.bl b) h = some (.bl (!decide (a = b))) := by
  have e : eqD h (.bl a) (.bl b) = some (decide (a = b)) := by
    show (if (PyData.bool a).canLay0 && (PyData.bool b).canLay0 then some ((PyData.bool a).eqv (PyData.bool b)) else none) = _
    simp only [PyData.canLay0, Bool.and_self, if_true, PyData.eqv]
    rw [Bool.eq_iff_iff.mpr (show (a == b) = true ↔ decide (a = b) = true by simp)]
  unfold oNeC
  rw [e]
theorem in_lst {u : Str} {ns : List Str} (hu : PyData.strOk u = true) (hs : ∀ s ∈ ns, PyData.strOk s = true) : inD h (.str u) (.lst (ns.map .str)) = some (decide (u ∈ ns)) := by
  have e1 : dp h 12 (.str u) = some (.str u) := rfl
  have e2 : dp h 12 (.lst (ns.map .str)) = some (.list (ns.map PyData.str)) := by
    show (match dpL (dp h 11) (ns.map D.str) with
      | some ps => some (PyData.list ps)
      | none => none) = _
    rw [dpL_strs]
  have e3 : PyData.canLay0 (.str u) = true := by simp only [PyData.canLay0]; exact hu
  show (match dp h 12 (.str u), dp h 12 (.lst (ns.map .str)) with
      | some p, some (.list qs) => if p.canLay0 && PyData.canLayAll0 qs then some (qs.any fun z => PyData.eqv z p) else none
      | some p, some (.tuple qs) => if p.canLay0 && PyData.canLayAll0 qs then some (qs.any fun z => PyData.eqv z p) else none
      | _, _ => none) = _
  rw [e1, e2]
  show (if (PyData.canLay0 (.str u) && PyData.canLayAll0 (ns.map PyData.str)) = true then some ((ns.map PyData.str).any fun z => PyData.eqv z (.str u)) else none) = _
  rw [e3, lay_strs hs, any_strs]
  rfl
/-! ### a place by its name -/
theorem all_head {α : Type} {p : α} {l : List α} (h1 : p ∈ l) (h2 : ∀ q ∈ l, q = p) : ∃ r, l = p :: r := by
  cases l with
  | nil => cases h1
  | cons a r => exact ⟨r, by rw [h2 a List.mem_cons_self]⟩

end
section
open PySem PySem.Spec PyProof.Rows L2
/-! ways over roads, and two searches for the least ones (no program in sight) -/
abbrev TabI := List (Str × Int)
inductive Wy (rs : List Ro) (u : Str) : Str → Int → Nat → Prop
  | nil : Wy rs u u 0 0
  | step {v : Str} {d : Int} {k : Nat} {r : Ro} : Wy rs u v d k → r ∈ rs → r.u = v → Wy rs u r.v (d + r.use) (k + 1)
theorem Wy.nn {rs : List Ro} {u v : Str} {d : Int} {k : Nat} (hp : ∀ r ∈ rs, 1 ≤ r.use) (w : Wy rs u v d k) : (k : Int) ≤ d := by
  induction w with
  | nil => exact Int.le_refl _
  | step _ hr _ ih => have := hp _ hr; omega
theorem Wy.up {rs : List Ro} {u v : Str} {d B : Int} {k : Nat} (hp : ∀ r ∈ rs, r.use ≤ B) (w : Wy rs u v d k) : d ≤ k * B := by
  induction w with
  | nil => omega
  | @step v d k' r _ hr _ ih =>
    have := hp _ hr
    have e : ((k' + 1 : Nat) : Int) * B = k' * B + B := by rw [Int.natCast_add, Int.add_mul]; omega
    omega
/-- the least uses, by ways of at most n roads -/
structure Tbl (rs : List Ro) (u : Str) (n : Nat) (m : TabI) : Prop where
  way : ∀ v d, lk m v = some d → ∃ k, k ≤ n ∧ Wy rs u v d k
  low : ∀ v d k, Wy rs u v d k → ∃ e, lk m v = some e ∧ e ≤ d
structure TbN (rs : List Ro) (u : Str) (n : Nat) (m : TabI) : Prop where
  way : ∀ v d, lk m v = some d → ∃ k, Wy rs u v d k
  low : ∀ v d k, k ≤ n → Wy rs u v d k → ∃ e, lk m v = some e ∧ e ≤ d
theorem tbl_eq {rs : List Ro} {u : Str} {n : Nat} {m m' : TabI} (a : Tbl rs u n m) (b : TbN rs u n m') (v : Str) : lk m v = lk m' v := by
  cases q : lk m v with
  | some d =>
    obtain ⟨k, hk, w⟩ := a.way v d q
    obtain ⟨e, e1, e2⟩ := b.low v d k hk w
    obtain ⟨k', w'⟩ := b.way v e e1
    obtain ⟨d', d1, d2⟩ := a.low v e k' w'
    rw [q] at d1
    cases d1
    rw [e1]
    congr 1
    omega
  | none =>
    cases q' : lk m' v with
    | none => rfl
    | some e =>
      obtain ⟨k', w'⟩ := b.way v e q'
      obtain ⟨d', d1, _⟩ := a.low v e k' w'
      rw [q] at d1
      cases d1
theorem tbl_tbl {rs : List Ro} {u : Str} {n n' : Nat} {m m' : TabI} (a : Tbl rs u n m) (b : Tbl rs u n' m') (v : Str) : lk m v = lk m' v := by
  cases q : lk m v with
  | some d =>
    obtain ⟨k, hk, w⟩ := a.way v d q
    obtain ⟨e, e1, e2⟩ := b.low v d k w
    obtain ⟨k', _, w'⟩ := b.way v e e1
    obtain ⟨d', d1, d2⟩ := a.low v e k' w'
    rw [q] at d1
    cases d1
    rw [e1]
    congr 1
    omega
  | none =>
    cases q' : lk m' v with
    | none => rfl
    | some e =>
      obtain ⟨k', _, w'⟩ := b.way v e q'
      obtain ⟨d', d1, _⟩ := a.low v e k' w'
      rw [q] at d1
      cases d1
/-! ### rounds over all roads -/
structure Rd (rs : List Ro) (u : Str) (t : Nat) (m : TabI) : Prop where
  way : ∀ v d, lk m v = some d → ∃ k, Wy rs u v d k
  low : ∀ v d k, k ≤ t → Wy rs u v d k → ∃ e, lk m v = some e ∧ e ≤ d
theorem Rd.start {rs : List Ro} {u : Str} : Rd rs u 0 [(u, 0)] where
  way := fun v d e => by
    by_cases z : u = v
    · subst z
      simp only [lk, if_true] at e
      cases e
      exact ⟨0, .nil⟩
    · simp [lk, z] at e
  low := fun v d k hk w => by
    cases w with
    | nil => exact ⟨0, by simp [lk], Int.le_refl _⟩
    | step _ _ _ => omega
/-- within a round: m0 at its begin, the first j roads are done -/
structure RdI (rs : List Ro) (u : Str) (m0 : TabI) (j : Nat) (m : TabI) : Prop where
  way : ∀ v d, lk m v = some d → ∃ k, Wy rs u v d k
  le : ∀ v d, lk m0 v = some d → ∃ e, lk m v = some e ∧ e ≤ d
  rd : ∀ r ∈ rs.take j, ∀ a, lk m0 r.u = some a → ∃ b, lk m r.v = some b ∧ b ≤ a + r.use
theorem RdI.start {rs : List Ro} {u : Str} {t : Nat} {m : TabI} (a : Rd rs u t m) : RdI rs u m 0 m := ⟨a.way, fun _ d e => ⟨d, e, Int.le_refl _⟩, fun r hr => by simp at hr⟩
theorem RdI.fin {rs : List Ro} {u : Str} {t : Nat} {m0 m : TabI} (a : Rd rs u t m0) (b : RdI rs u m0 rs.length m) : Rd rs u (t + 1) m where
  way := b.way
  low := fun v d k hk w => by
    cases w with
    | nil =>
      obtain ⟨e, e1, e2⟩ := a.low u 0 0 (Nat.zero_le _) .nil
      obtain ⟨f, f1, f2⟩ := b.le u e e1
      exact ⟨f, f1, by omega⟩
    | step w hr hv =>
      subst hv
      obtain ⟨e, e1, e2⟩ := a.low _ _ _ (by omega) w
      obtain ⟨f, f1, f2⟩ := b.rd _ (by rw [List.take_length]; exact hr) e e1
      exact ⟨f, f1, by omega⟩
theorem take_one {α : Type} {xs : List α} {j : Nat} {x y : α} (e : xs[j]? = some x) (h : y ∈ xs.take (j + 1)) : y ∈ xs.take j ∨ y = x := by
  rw [List.take_succ, e] at h
  rcases List.mem_append.mp h with h | h
  · exact .inl h
  · exact .inr (by simpa using h)
theorem RdI.skip {rs : List Ro} {u : Str} {m0 m : TabI} {j : Nat} {r : Ro} (b : RdI rs u m0 j m) (e : rs[j]? = some r) (h : ∀ c, lk m r.u = some c → ∃ b, lk m r.v = some b ∧ b ≤ c + r.use) : RdI rs u m0 (j + 1) m where
  way := b.way
  le := b.le
  rd := fun s hs a ha => by
    rcases take_one e hs with hs | rfl
    · exact b.rd s hs a ha
    · obtain ⟨c, c1, c2⟩ := b.le _ a ha
      obtain ⟨f, f1, f2⟩ := h c c1
      exact ⟨f, f1, by omega⟩
theorem RdI.put {rs : List Ro} {u : Str} {m0 m : TabI} {j : Nat} {r : Ro} {c : Int} (b : RdI rs u m0 j m) (e : rs[j]? = some r) (hc : lk m r.u = some c) (h : ∀ x, lk m r.v = some x → c + r.use ≤ x) : RdI rs u m0 (j + 1) (st m r.v (c + r.use)) where
  way := fun v d ed => by
    rw [lk_st] at ed
    by_cases z : v = r.v
    · rw [if_pos z] at ed
      cases ed
      obtain ⟨k, w⟩ := b.way _ c hc
      rw [z]
      exact ⟨k + 1, .step w (List.mem_of_getElem? e) rfl⟩
    · rw [if_neg z] at ed
      exact b.way v d ed
  le := fun v d ed => by
    obtain ⟨x, x1, x2⟩ := b.le v d ed
    rw [lk_st]
    by_cases z : v = r.v
    · rw [if_pos z]
      subst z
      exact ⟨_, rfl, by have := h x x1; omega⟩
    · rw [if_neg z]
      exact ⟨x, x1, x2⟩
  rd := fun s hs a ha => by
    have old : ∀ y, (∃ x, lk m s.v = some x ∧ x ≤ y) → ∃ x, lk (st m r.v (c + r.use)) s.v = some x ∧ x ≤ y := fun y ⟨x, x1, x2⟩ => by
      rw [lk_st]
      by_cases z : s.v = r.v
      · rw [if_pos z]
        rw [z] at x1
        exact ⟨_, rfl, by have := h x x1; omega⟩
      · rw [if_neg z]
        exact ⟨x, x1, x2⟩
    rcases take_one e hs with hs | rfl
    · exact old _ (b.rd s hs a ha)
    · obtain ⟨x, x1, x2⟩ := b.le _ a ha
      rw [hc] at x1
      cases x1
      rw [lk_st, if_pos rfl]
      exact ⟨_, rfl, by omega⟩
/-! ### the search by the least place -/
/-- m: found; b: the place before each; ds: done -/
structure Dj (rs : List Ro) (u : Str) (m : TabI) (b : List (Str × Str)) (ds : List Str) : Prop where
  st : lk m u = some 0
  way : ∀ v d, lk m v = some d → ∃ k, k ≤ ds.length ∧ Wy rs u v d k
  dn : ∀ x ∈ ds, ∃ d, lk m x = some d
  cl : ∀ x ∈ ds, ∀ d, lk m x = some d → ∀ r ∈ rs, r.u = x → ∃ e, lk m r.v = some e ∧ e ≤ d + r.use
  le : ∀ x ∈ ds, ∀ y, y ∉ ds → ∀ d e, lk m x = some d → lk m y = some e → d ≤ e
  nd : ds.Nodup
  bf : ∀ v x, lk b v = some x → x ∈ ds ∧ ∃ r ∈ rs, r.u = x ∧ r.v = v ∧ ∃ d, lk m x = some d ∧ lk m v = some (d + r.use)
  ba : ∀ v d, lk m v = some d → v ≠ u → ∃ x, lk b v = some x
  bu : lk b u = none
/-- while the roads from x are walked, T its use; qs: the ones done -/
structure Dm (rs : List Ro) (u : Str) (x : Str) (T : Int) (qs : List Ro) (m : TabI) (b : List (Str × Str)) (ds : List Str) : Prop where
  st : lk m u = some 0
  way : ∀ v d, lk m v = some d → ∃ k, k ≤ ds.length + 1 ∧ Wy rs u v d k
  wx : ∃ k, k ≤ ds.length ∧ Wy rs u x T k
  dn : ∀ y ∈ ds, ∃ d, lk m y = some d
  tx : lk m x = some T
  cl : ∀ y ∈ ds, ∀ d, lk m y = some d → ∀ r ∈ rs, r.u = y → ∃ e, lk m r.v = some e ∧ e ≤ d + r.use
  cx : ∀ r ∈ qs, ∃ e, lk m r.v = some e ∧ e ≤ T + r.use
  le : ∀ y ∈ ds ++ [x], ∀ d, lk m y = some d → d ≤ T
  ge : ∀ y, y ∉ ds ++ [x] → ∀ d, lk m y = some d → T ≤ d
  nd : (ds ++ [x]).Nodup
  bf : ∀ v y, lk b v = some y → y ∈ ds ++ [x] ∧ ∃ r ∈ rs, r.u = y ∧ r.v = v ∧ ∃ d, lk m y = some d ∧ lk m v = some (d + r.use)
  ba : ∀ v d, lk m v = some d → v ≠ u → ∃ x, lk b v = some x
  bu : lk b u = none
theorem Dj.start {rs : List Ro} {u : Str} : Dj rs u [(u, 0)] [] [] where
  st := by simp [lk]
  way := fun v d e => by
    by_cases z : u = v
    · subst z
      simp only [lk, if_true] at e
      cases e
      exact ⟨0, Nat.le_refl _, .nil⟩
    · simp [lk, z] at e
  dn := fun _ h => by simp at h
  cl := fun _ h => by simp at h
  le := fun _ h => by simp at h
  nd := List.nodup_nil
  bf := fun _ _ h => by simp [lk] at h
  ba := fun v d e hv => by simp [lk, Ne.symm hv] at e
  bu := by simp [lk]
/-- the least one that is not done is taken -/
theorem Dj.take {rs : List Ro} {u x : Str} {T : Int} {m : TabI} {b : List (Str × Str)} {ds : List Str} (D : Dj rs u m b ds) (hx : lk m x = some T) (nx : x ∉ ds) (hl : ∀ y, y ∉ ds → ∀ e, lk m y = some e → T ≤ e) : Dm rs u x T [] m b ds where
  st := D.st
  way := fun v d e => let ⟨k, h, w⟩ := D.way v d e; ⟨k, by omega, w⟩
  wx := D.way x T hx
  dn := D.dn
  tx := hx
  cl := D.cl
  cx := fun _ h => by simp at h
  le := fun y hy d e => by
    rcases List.mem_append.mp hy with hy | hy
    · exact D.le y hy x nx d T e hx
    · rw [List.mem_singleton.mp hy, hx] at e
      cases e
      exact Int.le_refl _
  ge := fun y hy d e => hl y (fun h => hy (List.mem_append_left _ h)) d e
  nd := by
    rw [List.nodup_append]
    exact ⟨D.nd, by simp, fun a ha c hc z => nx (by rw [← List.mem_singleton.mp hc, ← z]; exact ha)⟩
  bf := fun v y e => let ⟨h, r⟩ := D.bf v y e; ⟨List.mem_append_left _ h, r⟩
  ba := D.ba
  bu := D.bu
theorem Dm.skip {rs qs : List Ro} {u x : Str} {T : Int} {m : TabI} {b : List (Str × Str)} {ds : List Str} {r : Ro} (D : Dm rs u x T qs m b ds) {e : Int} (h : lk m r.v = some e) (h2 : e ≤ T + r.use) : Dm rs u x T (qs ++ [r]) m b ds :=
  ⟨D.st, D.way, D.wx, D.dn, D.tx, D.cl, fun q hq => (List.mem_append.mp hq).elim (fun hq => D.cx q hq) fun hq => by
    rw [List.mem_singleton.mp hq]; exact ⟨e, h, h2⟩, D.le, D.ge, D.nd, D.bf, D.ba, D.bu⟩
theorem Dm.put {rs qs : List Ro} {u x : Str} {T : Int} {m : TabI} {b : List (Str × Str)} {ds : List Str} {r : Ro} (hp : ∀ r ∈ rs, 1 ≤ r.use) (D : Dm rs u x T qs m b ds) (hr : r ∈ rs) (hu : r.u = x) (h : ∀ e, lk m r.v = some e → T + r.use < e) :
    Dm rs u x T (qs ++ [r]) (DL.st m r.v (T + r.use)) (DL.st b r.v x) ds := by
  have h1 := hp r hr
  obtain ⟨kx, kx1, kx2⟩ := D.wx
  have T0 := kx2.nn hp
  have nv : r.v ∉ ds ++ [x] := fun hv => by
    have : ∃ d, lk m r.v = some d := by
      rcases List.mem_append.mp hv with hv | hv
      · exact D.dn _ hv
      · exact ⟨T, by rw [List.mem_singleton.mp hv]; exact D.tx⟩
    obtain ⟨d, hd⟩ := this
    have := D.le _ hv d hd
    have := h d hd
    omega
  have nu : r.v ≠ u := fun z => by
    have := h 0 (by rw [z]; exact D.st)
    omega
  have old : ∀ {y : Str}, y ∈ ds ++ [x] → lk (DL.st m r.v (T + r.use)) y = lk m y := fun {y} hy => by
    rw [lk_st, if_neg fun z => nv (by rw [← z]; exact hy)]
  have low : ∀ {y : Str} {c : Int}, (∃ e, lk m y = some e ∧ e ≤ c) → ∃ e, lk (DL.st m r.v (T + r.use)) y = some e ∧ e ≤ c := fun {y c} ⟨e, e1, e2⟩ => by
    rw [lk_st]
    by_cases z : y = r.v
    · rw [if_pos z]
      rw [z] at e1
      exact ⟨_, rfl, by have := h e e1; omega⟩
    · rw [if_neg z]
      exact ⟨e, e1, e2⟩
  refine ⟨?_, fun v d e => ?_, D.wx, fun y hy => ?_, ?_, fun y hy d e q hq hy2 => ?_, fun q hq => ?_, fun y hy d e => ?_, fun y hy d e => ?_, D.nd, fun v y e => ?_, fun v d e hv => ?_, ?_⟩
  · rw [lk_st, if_neg (Ne.symm nu)]; exact D.st
  · rw [lk_st] at e
    by_cases z : v = r.v
    · rw [if_pos z] at e
      cases e
      rw [z]
      exact ⟨kx + 1, by omega, .step kx2 hr hu⟩
    · rw [if_neg z] at e
      exact D.way v d e
  · rw [old (List.mem_append_left _ hy)]; exact D.dn y hy
  · rw [old (by simp)]; exact D.tx
  · rw [old (List.mem_append_left _ hy)] at e
    exact low (D.cl y hy d e q hq hy2)
  · rcases List.mem_append.mp hq with hq | hq
    · exact low (D.cx q hq)
    · rw [List.mem_singleton.mp hq, lk_st, if_pos rfl]
      exact ⟨_, rfl, Int.le_refl _⟩
  · rw [old hy] at e; exact D.le y hy d e
  · rw [lk_st] at e
    by_cases z : y = r.v
    · rw [if_pos z] at e
      cases e
      omega
    · rw [if_neg z] at e
      exact D.ge y hy d e
  · rw [lk_st] at e
    by_cases z : v = r.v
    · rw [if_pos z] at e
      cases e
      refine ⟨by simp, r, hr, hu, z.symm, T, ?_, ?_⟩
      · rw [old (by simp)]; exact D.tx
      · rw [lk_st, if_pos z]
    · rw [if_neg z] at e
      obtain ⟨h3, q, q1, q2, q3, d, q4, q5⟩ := D.bf v y e
      refine ⟨h3, q, q1, q2, q3, d, by rw [old h3]; exact q4, by rw [lk_st, if_neg z]; exact q5⟩
  · rw [lk_st]
    by_cases z : v = r.v
    · rw [if_pos z]; exact ⟨x, rfl⟩
    · rw [if_neg z]
      rw [lk_st, if_neg z] at e
      exact D.ba v d e hv
  · rw [lk_st, if_neg (Ne.symm nu)]; exact D.bu
/-- all roads from x are walked -/
theorem Dm.fin {rs qs : List Ro} {u x : Str} {T : Int} {m : TabI} {b : List (Str × Str)} {ds : List Str} (D : Dm rs u x T qs m b ds) (hq : ∀ r ∈ rs, r.u = x → r ∈ qs) : Dj rs u m b (ds ++ [x]) where
  st := D.st
  way := fun v d e => let ⟨k, h, w⟩ := D.way v d e; ⟨k, by rw [List.length_append]; exact h, w⟩
  dn := fun y hy => by
    rcases List.mem_append.mp hy with hy | hy
    · exact D.dn y hy
    · exact ⟨T, by rw [List.mem_singleton.mp hy]; exact D.tx⟩
  cl := fun y hy d e r hr hu => by
    rcases List.mem_append.mp hy with hy | hy
    · exact D.cl y hy d e r hr hu
    · rw [List.mem_singleton.mp hy] at e hu
      rw [D.tx] at e
      cases e
      exact D.cx r (hq r hr hu)
  le := fun y hy z hz d e h1 h2 => by
    have := D.le y hy d h1
    have := D.ge z hz e h2
    omega
  nd := D.nd
  bf := D.bf
  ba := D.ba
  bu := D.bu
/-- nothing is left -/
theorem Dj.fin {rs : List Ro} {u : Str} {m : TabI} {b : List (Str × Str)} {ds : List Str} (D : Dj rs u m b ds) (h : ∀ v d, lk m v = some d → v ∈ ds) : Tbl rs u ds.length m where
  way := D.way
  low := fun v d k w => by
    induction w with
    | nil => exact ⟨0, D.st, Int.le_refl _⟩
    | step w hr hv ih =>
      obtain ⟨e, e1, e2⟩ := ih
      subst hv
      obtain ⟨f, f1, f2⟩ := D.cl _ (h _ e e1) e e1 _ hr rfl
      exact ⟨f, f1, by omega⟩
theorem nd_len {α : Type} [DecidableEq α] : ∀ {ds ns : List α}, ds.Nodup → (∀ x ∈ ds, x ∈ ns) → ds.length ≤ ns.length
  | [], _, _, _ => Nat.zero_le _
  | x :: ds, ns, nd, h => by
    rw [List.nodup_cons] at nd
    have hx := h x List.mem_cons_self
    have := nd_len (ds := ds) (ns := ns.erase x) nd.2 fun y hy => (List.mem_erase_of_ne fun z => nd.1 (by rw [← z]; exact hy)).mpr (h y (List.mem_cons_of_mem _ hy))
    rw [List.length_erase_of_mem hx] at this
    have : 0 < ns.length := List.length_pos_of_mem hx
    show ds.length + 1 ≤ ns.length
    omega
theorem nd_all {α : Type} [DecidableEq α] {ds ns : List α} (nd : ds.Nodup) (h : ∀ x ∈ ds, x ∈ ns) (hl : ns.length ≤ ds.length) {v : α} (hv : v ∈ ns) : v ∈ ds := by
  by_cases z : v ∈ ds
  · exact z
  · have := nd_len (ds := v :: ds) (ns := ns) (List.nodup_cons.mpr ⟨z, nd⟩) fun y hy => by
      rcases List.mem_cons.mp hy with rfl | hy
      · exact hv
      · exact h y hy
    simp only [List.length_cons] at this
    omega

end
section
open PySem PySem.Spec PyProof.Rows L2
/-! ### a for over a generator -/
section
variable {h : Hh} {de : Env'} {N : Env' → Hh → Prop} {R : D → Hh → Prop}
theorem ws_only {kb : Env' → Hh → Sr} (w : WS (kb de h) N fun _ _ => False) : WS (onlyNx kb de h) N R := by
  unfold onlyNx
  cases q : kb de h with
  | nx d h' => rw [q] at w; exact w
  | _ => rw [q] at w; exact False.elim w
theorem w_forG {c : Nat} {F : FnL} {fo : Env' → Hh → Rs D} {fs : Env' → Hh → Rs (List D)} {Gc : GD} {kb : Env' → Hh → Sr} {ks : List Nat}
    (w : WR (fo de h) fun d h1 => ∃ i fl, insOf h1 d = some (i, c, fl) ∧ WR (fs de h1) fun ds h2 => ∃ ys h3, F (d :: ds) h2 = .ok ys h3 ∧ WS (loopS ⟨none, ys⟩ Gc (onlyNx kb) ks ys de h3) N R) : WS (sForG c F fo fs Gc kb ks de h) N R := by
  unfold sForG
  rw [ws_st]
  refine w.mono ?_
  rintro d h1 ⟨i, fl, e, w2⟩
  rw [e]
  simp only [if_true]
  rw [ws_st]
  refine w2.mono ?_
  rintro ds h2 ⟨ys, h3, e3, w3⟩
  simp only [e3]
  exact w3
end
/-! ### roads_from -/
section
variable {h : Hh} {M : Net} {i : Nat}
def roD (r : Ro) : D := .tup [.str r.v, .int r.use]
theorem rds_flatT : ∀ rs : List Ro, (rs.map Ro.d).all flatT = true
  | [] => rfl
  | r :: rs => by rw [List.map_cons, List.all_cons, rds_flatT rs]; rfl
theorem items_from {f : Fn} {x : Str} (hx : PyData.strOk x = true) : ∀ rs : List Ro, (∀ r ∈ rs, PyData.strOk r.u = true) →
    gItems (kG_g_roads_from f) (kT_g_roads_from f) (kE_g_roads_from f) [2, 3, 4] (rs.map Ro.d) [none, some (.str x), none, none, none] = some ((rs.filter fun r => decide (r.u = x)).map roD)
  | [], _ => rfl
  | r :: rs, ho => by
    have ih := items_from (f := f) hx rs fun q hq => ho q (List.mem_cons_of_mem _ hq)
    have hr := ho r List.mem_cons_self
    rw [List.map_cons]
    unfold gItems
    have e1 : kG_g_roads_from f r.d [none, some (.str x), none, none, none] [] = some ([none, some (.str x), some (.str r.u), some (.str r.v), some (.int r.use)], []) := rfl
    have e2 : kT_g_roads_from f (envA [none, some (.str x), some (.str r.u), some (.str r.v), some (.int r.use)]) [] = .ok (decide (r.u = x)) [] := by
      have w : WR (kT_g_roads_from f [none, some (.str x), some (.str r.u), some (.str r.v), some (.int r.use)] []) fun b h' => b = decide (r.u = x) ∧ h' = [] := by
        unfold kT_g_roads_from
        walk_at "DL.W"
        refine ⟨_, eq_str hr hx, ?_⟩
        first | exact ⟨_, rfl, rfl, rfl⟩ | exact ⟨rfl, rfl⟩
      obtain ⟨v, h', q, rfl, rfl⟩ := w.of
      exact q
    rw [e1]
    simp only [e2]
    by_cases z : r.u = x
    · simp only [decide_eq_true z]
      rw [List.filter_cons_of_pos (by simpa using z)]
      show (if [D.str r.v, D.int r.use].all atom = true then (gItems (kG_g_roads_from f) (kT_g_roads_from f) (kE_g_roads_from f) [2, 3, 4] (rs.map Ro.d) [none, some (.str x), none, none, none]).map (D.tup [.str r.v, .int r.use] :: ·) else none) = _
      rw [ih]
      rfl
    · simp only [decide_eq_false z]
      rw [List.filter_cons_of_neg (by simpa using z)]
      exact ih
theorem pu_roads_from (ok : M.Ok) (e : h[i]? = some (netO M)) {x : Str} (hx : x ∈ M.names) : s_g_roads_from [.ref i, .str x] h = .ok ((M.rds.filter fun r => decide (r.u = x)).map roD) h := by
  have hs : kS_g_roads_from s_m_need_place ([D.ref i, D.str x].map some ++ List.replicate 3 none) h = .nx [some (.ref i), some (.str x), none, none, none] h := by
    show (match insOf h (.ref i) with | some (_, c', _) => _ | none => _ : Rs D).st _ _ = _
    rw [ins_at e]
    show (s_m_need_place [.ref i, .str x] h).st _ _ = _
    rw [pu_need_place ok e hx]
    rfl
  have hi : kI_g_roads_from s_m_need_place [some (.ref i), some (.str x), none, none, none] h = .ok (.tup (M.rds.map Ro.d)) h := by
    have w : WR (kI_g_roads_from s_m_need_place [some (.ref i), some (.str x), none, none, none] h) fun v h' => v = .tup (M.rds.map Ro.d) ∧ h' = h := by
      unfold kI_g_roads_from
      walk_at "DL.W"
      exact ⟨_, attr_at e rfl, rfl, rfl⟩
    obtain ⟨v, h', q, rfl, rfl⟩ := w.of
    exact q
  unfold s_g_roads_from lenG k_g_roads_from genF
  rw [if_pos (show [D.ref i, D.str x].length = 2 from rfl), hs]
  simp only [hi, rds_flatT, if_true]
  have := items_from (f := s_m_need_place) (x := x) (ok.nms x hx).ok M.rds fun r hr => (ok.nms _ (ok.rk r hr).1.1).ok
  rw [show envA [some (D.ref i), some (.str x), none, none, none] = [none, some (.str x), none, none, none] from rfl, this]
end
/-! ### rows, and the least of them -/
section
variable {h : Hh}
def rowD (p : Str × Int) : D := .tup [.int p.2, .str p.1]
theorem row_dat {p : Str × Int} : datD h (rowD p) = .tuple [.int p.2, .str p.1] := rfl
theorem row_lt {p q : Str × Int} : (PySem.W.dataLt (datD h (rowD p)) (datD h (rowD q)) = true → p.2 ≤ q.2) ∧ (PySem.W.dataLt (datD h (rowD p)) (datD h (rowD q)) = false → q.2 ≤ p.2) := by
  rw [row_dat, row_dat]
  by_cases z : p.2 = q.2
  · exact ⟨fun _ => by omega, fun _ => by omega⟩
  · have e : PySem.W.dataLt (.tuple [.int p.2, .str p.1]) (.tuple [.int q.2, .str q.1]) = decide (p.2 < q.2) := by
      rw [PySem.W.dataLt_tuple, PySem.W.dataLt_all_no (by rfl) (by
        show (p.2 == q.2) = false
        simpa using z), PySem.W.dataLt_int]
    rw [e]
    exact ⟨fun y => by have := of_decide_eq_true y; omega, fun y => by have := of_decide_eq_false y; omega⟩
theorem min_fold : ∀ (l : List (Str × Int)) (p : Str × Int), ∃ q, (l.map rowD).foldl (fun a y => if PySem.W.dataLt (datD h y) (datD h a) then y else a) (rowD p) = rowD q ∧ (q = p ∨ q ∈ l) ∧ q.2 ≤ p.2 ∧ ∀ y ∈ l, q.2 ≤ y.2
  | [], p => ⟨p, rfl, .inl rfl, Int.le_refl _, fun _ hy => by cases hy⟩
  | x :: l, p => by
    rw [List.map_cons, List.foldl_cons]
    obtain ⟨h1, h2⟩ := row_lt (h := h) (p := x) (q := p)
    cases z : PySem.W.dataLt (datD h (rowD x)) (datD h (rowD p)) with
    | true =>
      obtain ⟨q, e1, e2, e3, e4⟩ := min_fold l x
      have := h1 z
      refine ⟨q, e1, ?_, by omega, fun y hy => ?_⟩
      · rcases e2 with e2 | e2
        · exact .inr (by rw [e2]; exact List.mem_cons_self)
        · exact .inr (List.mem_cons_of_mem _ e2)
      · rcases List.mem_cons.mp hy with rfl | hy
        · exact e3
        · exact e4 y hy
    | false =>
      obtain ⟨q, e1, e2, e3, e4⟩ := min_fold l p
      have := h2 z
      refine ⟨q, e1, ?_, e3, fun y hy => ?_⟩
      · rcases e2 with e2 | e2
        · exact .inl e2
        · exact .inr (List.mem_cons_of_mem _ e2)
      · rcases List.mem_cons.mp hy with rfl | hy
        · omega
        · exact e4 y hy
theorem min_rows {l : List (Str × Int)} (h0 : l ≠ []) (hl : l.length ≤ 1000) : ∃ p ∈ l, bMinD [.lst (l.map rowD)] h = some (rowD p, h) ∧ ∀ q ∈ l, p.2 ≤ q.2 := by
  cases l with
  | nil => exact absurd rfl h0
  | cons x l =>
    obtain ⟨q, e1, e2, e3, e4⟩ := min_fold (h := h) l x
    refine ⟨q, ?_, ?_, fun y hy => ?_⟩
    · rcases e2 with rfl | e2
      · exact List.mem_cons_self
      · exact List.mem_cons_of_mem _ e2
    · have ok : bestOk h ((x :: l).map rowD) = true := by
        unfold bestOk
        simp only [Bool.and_eq_true, List.all_eq_true]
        refine ⟨⟨⟨lim_of (by rw [List.length_map]; exact Nat.le_trans hl (by decide)), fun d hd => ?_⟩, fun a ha b hb => ?_⟩, fun d hd => ?_⟩
        · obtain ⟨p, _, rfl⟩ := List.mem_map.mp hd
          rfl
        · obtain ⟨p, _, rfl⟩ := List.mem_map.mp ha
          obtain ⟨r, _, rfl⟩ := List.mem_map.mp hb
          rfl
        · obtain ⟨p, _, rfl⟩ := List.mem_map.mp hd
          rfl
      show (if bestOk h (rowD x :: l.map rowD) then some (minOf h (rowD x) (l.map rowD), h) else none) = _
      rw [if_pos (show bestOk h (rowD x :: l.map rowD) = true from ok)]
      unfold minOf
      rw [e1]
    · rcases List.mem_cons.mp hy with rfl | hy
      · exact e3
      · exact e4 y hy
/-! ### dicts that are walked -/
theorem w_slockG {de : Env'} {j i : Nat} {kf : Env' → Hh → Sr} {N : Env' → Hh → Prop} {R : D → Hh → Prop} {t : Bool} {k : List (D × D)} (ed : de[j]? = some (some (.ref i))) (e : h[i]? = some (.dct t k)) (w : WS (kf de (h.set i (.lock t k))) (fun de' h' => h' = h.set i (.lock t k) ∧ N de' h) fun d h' => h' = h.set i (.lock t k) ∧ R d h) : WS (sLock j kf de h) N R := by
  have hi := (List.getElem?_eq_some_iff.mp e).1
  have el : lockOf j de h = some (i, t, k) := by
    unfold lockOf
    rw [ed]
    simp only [e]
  have eu : unlk i (h.set i (.lock t k)) = some h := by
    unfold unlk
    rw [List.getElem?_set_self hi]
    simp only [List.set_set]
    congr 1
    refine List.ext_getElem? fun k => ?_
    by_cases z : k = i
    · subst z
      rw [List.getElem?_set_self hi, e]
    · rw [List.getElem?_set_ne (fun y => z y.symm)]
  unfold sLock
  rw [el]
  show WS (unlS i (kf de (h.set i (.lock t k)))) N R
  cases q : kf de (h.set i (.lock t k)) with
  | nx de' h' =>
    rw [q] at w
    obtain ⟨rfl, n⟩ := w
    simp only [unlS, eu]
    exact n
  | rt d h' =>
    rw [q] at w
    obtain ⟨rfl, n⟩ := w
    simp only [unlS, eu]
    exact n
  | _ => rw [q] at w; exact False.elim w
theorem keys_atG {i : Nat} {t : Bool} {k : List (D × D)} (hl : k.length ≤ 1000) (e : h[i]? = some (.lock t k)) : keysSrc h (.ref i) = some ⟨some (i, .lock t k), k.map (·.1)⟩ := by
  unfold keysSrc
  simp only [e]
  rw [if_pos (lim_of (by omega))]
theorem in_live {i : Nat} {u : Str} {ns : List Str} (e : h[i]? = some (.lst (ns.map .str))) (hu : PyData.strOk u = true) (hs : ∀ s ∈ ns, PyData.strOk s = true) : inD h (.str u) (.ref i) = some (decide (u ∈ ns)) := by
  have ed : dctOf h (.ref i) = none := by unfold dctOf; simp only [e]
  have e3 : PyData.canLay0 (.str u) = true := by simp only [PyData.canLay0]; exact hu
  have e4 : dp h 12 (.ref i) = dp h 12 (.lst (ns.map .str)) := by
    unfold dp
    rw [lst_at e]
    rfl
  have e5 : inD h (.str u) (.ref i) = inD h (.str u) (.lst (ns.map .str)) := by
    show (match dctOf h (.ref i) with
      | some (t, kvs) => (dlook t kvs (.str u)).map Option.isSome
      | none => match dp h 12 (.str u), dp h 12 (.ref i) with
        | some p, some (.list qs) => if p.canLay0 && PyData.canLayAll0 qs then some (qs.any fun z => PyData.eqv z p) else none
        | some p, some (.tuple qs) => if p.canLay0 && PyData.canLayAll0 qs then some (qs.any fun z => PyData.eqv z p) else none
        | _, _ => none) = _
    rw [ed, e4]
    rfl
  rw [e5]
  exact in_lst hu hs
end

end
section
open PySem PySem.Spec PyProof.Rows L2
section
variable {h : Hh} {M : Net} {i : Nat}
abbrev strD (b : List (Str × Str)) : D := .dct false ((kvs D.str D.str b).map (·.1)) ((kvs D.str D.str b).map (·.2))
abbrev intD (m : TabI) : D := .dct false ((kvs D.str D.int m).map (·.1)) ((kvs D.str D.int m).map (·.2))
/-- what the search gives -/
structure Srch (M : Net) (s : Str) (m : TabI) (b : List (Str × Str)) : Prop where
  tbl : Tbl M.rds s M.names.length m
  nd : (m.map (·.1)).Nodup
  ks : ∀ v d, lk m v = some d → v ∈ M.names
  st : lk m s = some 0
  bf : ∀ v x, lk b v = some x → ∃ r ∈ M.rds, r.u = x ∧ r.v = v ∧ ∃ d, lk m x = some d ∧ lk m v = some (d + r.use)
  ba : ∀ v d, lk m v = some d → v ≠ s → ∃ x, lk b v = some x
  bu : lk b s = none
  bn : (b.map (·.1)).Nodup
theorem get0 {a b c : AO} : (h ++ [a, b, c])[h.length]? = some a := by simp
theorem get1 {a b c : AO} : (h ++ [a, b, c])[h.length + 1]? = some b := by simp
theorem get2 {a b c : AO} : (h ++ [a, b, c])[h.length + 2]? = some c := by simp
theorem set0 {a b c a' : AO} : (h ++ [a, b, c]).set h.length a' = h ++ [a', b, c] := by simp
theorem set1 {a b c b' : AO} : (h ++ [a, b, c]).set (h.length + 1) b' = h ++ [a, b', c] := by simp
theorem set2 {a b c c' : AO} : (h ++ [a, b, c]).set (h.length + 2) c' = h ++ [a, b, c'] := by simp
abbrev srH (h : Hh) (m : TabI) (b : List (Str × Str)) (ds : List Str) : Hh := h ++ [.dct false (kvs D.str D.int m), .dct false (kvs D.str D.str b), .lst (ds.map .str)]
/-- the rows of a turn -/
def rowsL (m : TabI) (ds : List Str) : List (Str × Int) := m.filter fun p => !decide (p.1 ∈ ds)
theorem rows_app {m : TabI} {p : Str × Int} {ds : List Str} : (rowsL (m ++ [p]) ds) = rowsL m ds ++ if p.1 ∈ ds then [] else [p] := by
  unfold rowsL
  rw [List.filter_append]
  by_cases z : p.1 ∈ ds <;> simp [z]
theorem kv_at {β : Type} {f : β → D} {m : List (Str × β)} {k : Nat} {x : D} (e : ((kvs D.str f m).map (·.1))[k]? = some x) : ∃ p, m[k]? = some p ∧ x = .str p.1 := by
  unfold kvs at e
  rw [List.map_map, List.getElem?_map] at e
  cases q : m[k]? with
  | none => rw [q] at e; cases e
  | some p => rw [q] at e; cases e; exact ⟨p, rfl, rfl⟩
theorem roads_of {M : Net} {x : Str} {r : Ro} : r ∈ (M.rds.filter fun r => decide (r.u = x)) ↔ r ∈ M.rds ∧ r.u = x := by simp
/-- the state of the search behind t turns -/
structure Sst (M : Net) (s : Str) (t : Nat) (m : TabI) (b : List (Str × Str)) (ds : List Str) : Prop where
  dj : Dj M.rds s m b ds
  nd : (m.map (·.1)).Nodup
  bn : (b.map (·.1)).Nodup
  ks : ∀ v d, lk m v = some d → v ∈ M.names
  bk : ∀ v x, lk b v = some x → v ∈ M.names
  go : ds.length = t ∨ ∀ v d, lk m v = some d → v ∈ ds
theorem keys_len {β : Type} {m : List (Str × β)} {ns : List Str} (nd : (m.map (·.1)).Nodup) (ks : ∀ v d, lk m v = some d → v ∈ ns) : m.length ≤ ns.length := by
  have := nd_len (ds := m.map (·.1)) (ns := ns) nd fun x hx => by
    obtain ⟨p, hp, rfl⟩ := List.mem_map.mp hx
    exact ks p.1 p.2 (lk_mem nd hp)
  rw [List.length_map] at this
  exact this
theorem gt2_two {F F' : GD} {x y : D} {de de1 de2 : Env'} {h h1 h2 : Hh} (e1 : F x de h = some (de1, h1)) (e2 : F' y de1 h1 = some (de2, h2)) : gT 2 (gsCons F (gsCons F' gsNil)) (.tup [x, y]) de h = some (de2, h2) := by
  simp [gT, gsCons, gsNil, e1, e2]
theorem ints_flat {k : Nat} (m : TabI) : ((kvs D.str D.int m).map (·.2)).all (flatN 0 (k + 1)) = true := by
  rw [List.all_eq_true]
  intro y hy
  obtain ⟨q, hq, rfl⟩ := List.mem_map.mp hy
  obtain ⟨u, _, rfl⟩ := List.mem_map.mp hq
  rfl
theorem strs_flat' {k : Nat} (m : List (Str × Str)) : ((kvs D.str D.str m).map (·.2)).all (flatN 0 (k + 1)) = true := by
  rw [List.all_eq_true]
  intro y hy
  obtain ⟨q, hq, rfl⟩ := List.mem_map.mp hy
  obtain ⟨u, _, rfl⟩ := List.mem_map.mp hq
  rfl
theorem norm_two {h : Hh} {n k : Nat} {a b x y : D} (e1 : norm h n [] k a = some x) (e2 : norm h n [] k b = some y) : norm h n [] (k + 1) (.tup [a, b]) = some (.tup [x, y]) := by
  show (mapO (norm h n [] k) [a, b]).map D.tup = _
  simp [mapO, e1, e2]
theorem pu_searched (ok : M.Ok) (e : h[i]? = some (netO M)) {s : Str} (hs : s ∈ M.names) : ∃ m b, s_searched [.ref i, .str s] h = .ok (.tup [intD m, strD b]) h ∧ Srch M s m b := by
  have hi : i < h.length := (List.getElem?_eq_some_iff.mp e).1
  have ea : ∀ js : Hh, (h ++ js)[i]? = some (netO M) := fun js => by rw [List.getElem?_append_left hi]; exact e
  have hn10 : M.names.length ≤ 10 := by unfold Net.names; rw [List.length_map]; exact ok.p2
  have pos : ∀ r ∈ M.rds, 1 ≤ r.use := fun r hr => (ok.rk r hr).2.1
  have key : ∃ v, s_searched [.ref i, .str s] h = .ok v h ∧ ∃ m b, v = .tup [intD m, strD b] ∧ Srch M s m b := by
    unfold s_searched
    have gg : ∃ v, gcF (fun _ => []) (runB 10 (k_searched s_g_roads_from)) [.ref i, .str s] h = .ok v h ∧ ∃ m b, v = .tup [intD m, strD b] ∧ Srch M s m b := by
      refine gc_pureE ?_
      rw [w_run]
      unfold k_searched
      walk_at "DL.S"
      refine w_loopI (fun t de h' => ∃ m b ds d5 d6 d7 d8 d9 d10, de = [some (.ref i), some (.str s), some (.ref h.length), some (.ref (h.length + 1)), some (.ref (h.length + 2)), d5, d6, d7, d8, d9, d10, none] ∧ h' = srH h m b ds ∧ Sst M s t m b ds) (by intros; exact trivial) ?_ ?_ ⟨[(s, 0)], [], [], none, none, none, none, none, none, by simp, by rw [List.append_assoc, List.append_assoc]; rfl, .start, by simp, by simp, ?_, (fun _ _ q => by simp [lk] at q), .inl rfl⟩
      · rintro t x _ _ hx ⟨m, b, ds, d5, d6, d7, d8, d9, d10, rfl, rfl, S⟩
        obtain ⟨ht, rfl⟩ := ups_get hx
        refine ⟨_, _, rfl, ?_⟩
        have ml := keys_len S.nd S.ks
        refine ws_cut (fun de h' => de = [some (.ref i), some (.str s), some (.ref h.length), some (.ref (h.length + 1)), some (.ref (h.length + 2)), some (.int (0 + t)), some (.lst ((rowsL m ds).map rowD)), d7, d8, d9, d10, none] ∧ h' = srH h m b ds) ?_ ?_
        · refine w_slockG (i := h.length) (t := false) (k := kvs D.str D.int m) rfl get0 ?_
          rw [set0]
          walk_at "DL.S"
          refine ⟨_, keys_atG (i := h.length) (t := false) (k := kvs D.str D.int m) (by unfold kvs; rw [List.length_map]; omega) get0, ?_⟩
          refine w_compI (fun k acc h' => acc = (rowsL (m.take k) ds).map rowD ∧ h' = h ++ [.lock false (kvs D.str D.int m), .dct false (kvs D.str D.str b), .lst (ds.map .str)]) (by rintro _ _ _ ⟨_, rfl⟩; exact get0) ?_ ?_ ⟨rfl, rfl⟩
          · rintro k y acc _ hy ⟨rfl, rfl⟩
            obtain ⟨p, hp, rfl⟩ := kv_at hy
            have hpm := List.mem_of_getElem? hp
            have lp := lk_mem S.nd (a := p.1) (v := p.2) hpm
            have e3 : rowsL (m.take (k + 1)) ds = rowsL (m.take k) ds ++ if p.1 ∈ ds then [] else [p] := by
              rw [List.take_succ, hp]
              exact rows_app
            have np := (ok.nms p.1 (S.ks _ _ lp)).ok
            refine ⟨_, _, rfl, ?_⟩
            walk_at "DL.S"
            refine ⟨_, oNin_of (in_live get2 np fun z hz => ?_), ?_⟩
            · obtain ⟨d, hd⟩ := S.dj.dn z hz
              exact (ok.nms z (S.ks _ _ hd)).ok
            by_cases z : p.1 ∈ ds
            · rw [decide_eq_true z]
              walk_at "DL.S"
              exact ⟨by rw [e3, if_pos z, List.append_nil], rfl⟩
            · rw [decide_eq_false z]
              walk_at "DL.S"
              refine ⟨_, getS_of (f := D.int) (dct_lock get0) lp (fun _ z => nomatch z), ?_⟩
              walk_at "DL.S"
              refine ⟨?_, rfl⟩
              rw [e3, if_neg z, List.map_append]
              rfl
          · rintro acc _ ⟨rfl, rfl⟩
            walk_at "DL.S"
            refine ⟨?_, rfl⟩
            have : m.take ((kvs D.str D.int m).map (·.1)).length = m := by unfold kvs; rw [List.length_map, List.length_map, List.take_length]
            show [some (D.ref i), some (D.str s), some (D.ref h.length), some (D.ref (h.length + 1)), some (D.ref (h.length + 2)), some (D.int (0 + ↑t)), some (D.lst ((rowsL (m.take ((kvs D.str D.int m).map (·.1)).length) ds).map rowD)), d7, d8, d9, d10, none] = _
            rw [this]
        · rintro _ _ ⟨rfl, rfl⟩
          by_cases hne : rowsL m ds = []
          · rw [hne]
            walk_at "DL.S"
            refine ⟨m, b, ds, _, _, _, _, _, _, rfl, rfl, S.dj, S.nd, S.bn, S.ks, S.bk, .inr fun v d hv => ?_⟩
            by_cases z : v ∈ ds
            · exact z
            · have : (v, d) ∈ rowsL m ds := List.mem_filter.mpr ⟨lk_some hv, by simpa using z⟩
              rw [hne] at this
              cases this
          · obtain ⟨p, hp, e1, hmin⟩ := min_rows (h := srH h m b ds) hne (by unfold rowsL; have := List.length_filter_le (fun p => !decide (p.1 ∈ ds)) m; omega)
            walk_at "DL.S"
            refine ⟨_, ne_empty (d := .lst ((rowsL m ds).map rowD)) rfl (fun x hx => ?_), ?_⟩
            · obtain ⟨q, hq, rfl⟩ := List.mem_map.mp hx
              have hq := (List.mem_filter.mp hq).1
              have := (ok.nms q.1 (S.ks _ _ (lk_mem S.nd (a := q.1) (v := q.2) hq))).ok
              show (true && (PyData.strOk q.1 && true)) = true
              rw [this]; rfl
            rw [show ((rowsL m ds).map rowD).isEmpty = false from by cases q : rowsL m ds with | nil => exact absurd q hne | cons _ _ => rfl]
            walk_at "DL.S"
            refine ⟨_, _, e1, ?_⟩
            walk_at "DL.S"
            obtain ⟨hpm, hpd⟩ := List.mem_filter.mp hp
            have hpd : p.1 ∉ ds := by simpa using hpd
            have lp := lk_mem S.nd (a := p.1) (v := p.2) hpm
            have np := S.ks _ _ lp
            have D0 : Dm M.rds s p.1 p.2 [] m b ds := S.dj.take lp hpd fun y hy e he => hmin (y, e) (List.mem_filter.mpr ⟨lk_some he, by simpa using hy⟩)
            have dl : ds.length ≤ 10 := Nat.le_trans (nd_len S.dj.nd (ns := M.names) fun x hx => let ⟨d, hd⟩ := S.dj.dn x hx; S.ks x d hd) hn10
            refine ⟨isL_at get2, ?_⟩
            walk_at "DL.S"
            refine ⟨_, _, app_at get2 (by rw [List.length_map]; omega), ?_⟩
            rw [set2]
            rw [show ds.map D.str ++ [D.str p.1] = (ds ++ [p.1]).map D.str by rw [List.map_append]; rfl]
            refine w_forG ?_
            walk_at "DL.S"
            refine ⟨_, _, ins_at (ea _), ?_⟩
            walk_at "DL.S"
            refine ⟨_, _, pu_roads_from ok (ea _) np, ?_⟩
            refine w_loopI (fun k de h' => ∃ m' b' d9 d10, de = [some (.ref i), some (.str s), some (.ref h.length), some (.ref (h.length + 1)), some (.ref (h.length + 2)), some (.int (0 + t)), some (.lst ((rowsL m ds).map rowD)), some (.int p.2), some (.str p.1), d9, d10, none] ∧ h' = srH h m' b' (ds ++ [p.1]) ∧ Dm M.rds s p.1 p.2 ((M.rds.filter fun r => decide (r.u = p.1)).take k) m' b' ds ∧ (m'.map (·.1)).Nodup ∧ (b'.map (·.1)).Nodup ∧ (∀ v d, lk m' v = some d → v ∈ M.names) ∧ (∀ v x, lk b' v = some x → v ∈ M.names)) (by intros; exact trivial) ?_ ?_ ⟨m, b, d9, d10, rfl, rfl, D0, S.nd, S.bn, S.ks, S.bk⟩
            · rintro k y _ _ hy ⟨m', b', d9, d10, rfl, rfl, D1, nd1, bn1, ks1, bk1⟩
              rw [List.getElem?_map] at hy
              cases q0 : (M.rds.filter fun r => decide (r.u = p.1))[k]? with
              | none => rw [q0] at hy; cases hy
              | some r =>
                rw [q0] at hy
                cases hy
                obtain ⟨hr, hru⟩ := roads_of.mp (List.mem_of_getElem? q0)
                have hrv : r.v ∈ M.names := (ok.rk r hr).1.2.1
                have et : (M.rds.filter fun r => decide (r.u = p.1)).take (k + 1) = (M.rds.filter fun r => decide (r.u = p.1)).take k ++ [r] := by rw [List.take_succ, q0]; rfl
                have ml1 := keys_len nd1 ks1
                have bl1 := keys_len bn1 bk1
                refine ⟨_, _, gt2, ?_⟩
                refine ws_only ?_
                walk_at "DL.S"
                refine ⟨_, oNin_of (inS_of (f := D.int) (s := r.v) (dct_ref get0) (fun _ z => nomatch z)), ?_⟩
                have put : (∀ e, lk m' r.v = some e → p.2 + r.use < e) → ∃ m2 b2, m2 = st m' r.v (p.2 + r.use) ∧ b2 = st b' r.v p.1 ∧ Dm M.rds s p.1 p.2 ((M.rds.filter fun r => decide (r.u = p.1)).take (k + 1)) m2 b2 ds ∧ (m2.map (·.1)).Nodup ∧ (b2.map (·.1)).Nodup ∧ (∀ v d, lk m2 v = some d → v ∈ M.names) ∧ (∀ v x, lk b2 v = some x → v ∈ M.names) := fun hlt => by
                  refine ⟨_, _, rfl, rfl, by rw [et]; exact D1.put pos hr hru hlt, st_nodup nd1, st_nodup bn1, fun v d q => ?_, fun v d q => ?_⟩
                  · rw [lk_st] at q
                    by_cases z : v = r.v
                    · rw [z]; exact hrv
                    · rw [if_neg z] at q; exact ks1 v d q
                  · rw [lk_st] at q
                    by_cases z : v = r.v
                    · rw [z]; exact hrv
                    · rw [if_neg z] at q; exact bk1 v d q
                have asg : ∀ {d10 : Option D}, gT 2 (gsCons (gSb (dV 2) (dV 9)) (gsCons (gSb (dV 3) (dV 9)) gsNil)) (.tup [.int (p.2 + r.use), .str p.1]) [some (.ref i), some (.str s), some (.ref h.length), some (.ref (h.length + 1)), some (.ref (h.length + 2)), some (.int (0 + t)), some (.lst ((rowsL m ds).map rowD)), some (.int p.2), some (.str p.1), some (.str r.v), d10, none] (srH h m' b' (ds ++ [p.1])) = some ([some (.ref i), some (.str s), some (.ref h.length), some (.ref (h.length + 1)), some (.ref (h.length + 2)), some (.int (0 + t)), some (.lst ((rowsL m ds).map rowD)), some (.int p.2), some (.str p.1), some (.str r.v), d10, none], srH h (st m' r.v (p.2 + r.use)) (st b' r.v p.1) (ds ++ [p.1])) := fun {d10} => by
                  refine gt2_two (gsb_ok rfl rfl ((setS_at (f := D.int) (s := r.v) (v := p.2 + r.use) get0 (by omega)).trans (by rw [set0]))) (gsb_ok rfl rfl ((setS_at (f := D.str) (s := r.v) (v := p.1) get1 (by omega)).trans (by rw [set1])))
                cases q1 : lk m' r.v with
                | none =>
                  obtain ⟨m2, b2, rfl, rfl, z1, z2, z3, z4, z5⟩ := put fun e q => by rw [q1] at q; cases q
                  walk_at "DL.S"
                  exact ⟨_, _, asg, _, _, _, _, rfl, rfl, z1, z2, z3, z4, z5⟩
                | some ev =>
                  walk_at "DL.S"
                  refine ⟨_, getS_of (f := D.int) (dct_ref get0) q1 (fun _ z => nomatch z), ?_⟩
                  walk_at "DL.S"
                  refine ⟨fun q2 => ?_, fun q2 => ?_⟩
                  · have q2 : p.2 + r.use < ev := of_decide_eq_true q2
                    obtain ⟨m2, b2, rfl, rfl, z1, z2, z3, z4, z5⟩ := put fun e q => by rw [q1] at q; cases q; exact q2
                    walk_at "DL.S"
                    exact ⟨_, _, asg, _, _, _, _, rfl, rfl, z1, z2, z3, z4, z5⟩
                  · have q2 : ¬ p.2 + r.use < ev := of_decide_eq_false q2
                    walk_at "DL.S"
                    exact ⟨m', b', _, _, rfl, rfl, by rw [et]; exact D1.skip q1 (by omega), nd1, bn1, ks1, bk1⟩
            · rintro _ _ ⟨m', b', d9, d10, rfl, rfl, D1, nd1, bn1, ks1, bk1⟩
              rw [List.length_map, List.take_length] at D1
              refine ⟨m', b', ds ++ [p.1], _, _, _, _, _, _, rfl, rfl, D1.fin fun r hr hu => roads_of.mpr ⟨hr, hu⟩, nd1, bn1, ks1, bk1, ?_⟩
              rcases S.go with hg | hg
              · exact .inl (by rw [List.length_append]; show ds.length + 1 = t + 1; omega)
              · exact absurd (hg _ _ lp) hpd
      · rintro _ _ ⟨m, b, ds, d5, d6, d7, d8, d9, d10, rfl, rfl, S⟩
        walk_at "DL.S"
        have hl : ds.length = 10 ∨ ∀ v d, lk m v = some d → v ∈ ds := S.go
        have dsn : ∀ x ∈ ds, x ∈ M.names := fun x hx => let ⟨d, hd⟩ := S.dj.dn x hx; S.ks x d hd
        have all : ∀ v d, lk m v = some d → v ∈ ds := fun v d hv => by
          rcases hl with hl | hl
          · exact nd_all S.dj.nd dsn (by omega) (S.ks v d hv)
          · exact hl v d hv
        refine ⟨_, .tup [intD m, strD b], rfl, ?_, m, b, rfl, ⟨?_, S.nd, S.ks, S.dj.st, fun v x q => (S.dj.bf v x q).2, S.dj.ba, S.dj.bu, S.bn⟩⟩
        · exact norm_two (norm_dct (t := false) (kvs := kvs D.str D.int m) (Nat.zero_le _) (Nat.le_refl _) get0 (ints_flat m)) (norm_dct (t := false) (kvs := kvs D.str D.str b) (Nat.zero_le _) (Nat.le_succ _) get1 (strs_flat' b))
        · have T := S.dj.fin all
          exact ⟨fun v d q => let ⟨k, h1, h2⟩ := T.way v d q; ⟨k, Nat.le_trans h1 (nd_len S.dj.nd dsn), h2⟩, T.low⟩
      · intro v d q
        by_cases z : s = v
        · rw [← z]; exact hs
        · simp [lk, z] at q
    obtain ⟨v, e1, q⟩ := gg
    exact ⟨v, (lenI_eq rfl).trans e1, q⟩
  obtain ⟨v, e1, m, b, rfl, S⟩ := key
  exact ⟨m, b, e1, S⟩
end

end
section
open PySem PySem.Spec PyProof.Rows L2
open SX (S S_len S_cat S_inj)
variable {h : Hh}
/-! ### tables of amounts or None -/
abbrev TabO := List (Str × Option Int)
abbrev optD (m : TabO) : D := .dct false ((kvs D.str oi m).map (·.1)) ((kvs D.str oi m).map (·.2))
def pdI : Option Int → PyData
  | none => .none
  | some i => .int i
def pdO (m : TabO) : PyData := .dict (m.map fun p => (.str p.1, pdI p.2))
def txO (m : TabO) : Str := (pdO m).shown
theorem keysO_strs : ∀ ss : List Str, keysOf (ss.map D.str) = some (ss.map .inr)
  | [] => rfl
  | s :: ss => by
    have ih : allOf keyOf (ss.map D.str) = some (ss.map .inr) := keysO_strs ss
    show allOf keyOf (.str s :: ss.map D.str) = _
    rw [allOf, ih]
    rfl
theorem rdO_int {b : Bool} {n : Nat} (o : Option Int) : rdD b h (n + 1) (oi o) = some (pdI o) := by
  cases o with
  | none => show rdD b h (n + 1) .non = some .none; rw [rdD]
  | some i => show rdD b h (n + 1) (.int i) = some (.int i); rw [rdD]
theorem rd_opts {n : Nat} : ∀ is : List (Option Int), mapO (rdD false h (n + 1)) (is.map oi) = some (is.map pdI)
  | [] => rfl
  | i :: is => by
    have ih := rd_opts (n := n) is
    rw [List.map_cons, mapO, ih, rdO_int]
    rfl
theorem zip_pdO : ∀ m : TabO, ((((m.map (·.1)).map (Sum.inr : Str → Key)).map kP).zip ((m.map (·.2)).map pdI)) = m.map fun p => (.str p.1, pdI p.2)
  | [] => rfl
  | p :: m => by
    have := zip_pdO m
    simp only [List.map_cons, List.zip_cons_cons, this]
    rfl
theorem rdM_tabO {n : Nat} (m : TabO) : rdM ((kvs D.str oi m).map (·.1)) (mapO (rdD false h (n + 1)) ((kvs D.str oi m).map (·.2))) = some (pdO m) := by
  have e1 : (kvs D.str oi m).map (·.1) = (m.map (·.1)).map D.str := by simp [kvs]
  have e2 : (kvs D.str oi m).map (·.2) = (m.map (·.2)).map oi := by simp [kvs]
  rw [e1, e2, rd_opts]
  unfold rdM
  rw [keysO_strs]
  simp only [List.length_map, if_true]
  rw [zip_pdO]
  rfl
theorem logO_of {a : Int} (h0 : 0 ≤ a) (h1 : a ≤ 10 ^ 40) : a.natAbs.log2 < 1920 := by
  have : a.natAbs.log2 < 200 := PySem.Flt.log2_lt_of (by decide) (by omega)
  omega
def OkI (o : Option Int) : Prop := ∀ a, o = some a → 0 ≤ a ∧ a ≤ 10 ^ 40
theorem shI {o : Option Int} (k : OkI o) : PyData.showable (pdI o) = true ∧ PyData.leavesShort 2000 (pdI o) = true ∧ PyData.bulk (pdI o) ≤ 10 := by
  cases o with
  | none => exact ⟨rfl, rfl, by simp [pdI, PyData.bulk]⟩
  | some a =>
    obtain ⟨a0, a1⟩ := k a rfl
    have lg := logO_of a0 a1
    refine ⟨?_, ?_, ?_⟩
    · show PyData.showable (.int a) = true
      simp only [PyData.showable, decide_eq_true lg]
    · show PyData.leavesShort 2000 (.int a) = true
      simp only [PyData.leavesShort]
      refine decide_eq_true ?_
      rw [PyData.shown_int]
      have := int_text_len_1921 lg
      exact Nat.le_trans this (by decide)
    · show PyData.bulk (.int a) ≤ 10
      simp [PyData.bulk]
theorem reprI {o : Option Int} (k : OkI o) : bReprA [oi o] h = some (.str (pdI o).shown, h) := by
  obtain ⟨a, b, c⟩ := shI k
  have hs : shOk (pdI o) = true := by
    unfold shOk
    rw [a, b]
    exact decide_eq_true (by omega)
  unfold bReprA
  simp only [rdO_int (n := 11), hs, if_true]
theorem sh_rowsO : ∀ m : TabO, (∀ p ∈ m, Nm p.1 ∧ OkI p.2) → PyData.showableKv (m.map fun p => (.str p.1, pdI p.2)) = true ∧ PyData.leavesShortKv 2000 (m.map fun p => (.str p.1, pdI p.2)) = true ∧ PyData.bulkKv (m.map fun p => (.str p.1, pdI p.2)) ≤ 40 * m.length
  | [], _ => by simp [PyData.showableKv, PyData.leavesShortKv, PyData.bulkKv]
  | p :: m, hk => by
    obtain ⟨i1, i2, i3⟩ := sh_rowsO m fun q hq => hk q (List.mem_cons_of_mem _ hq)
    obtain ⟨⟨l, e, l1, l2, lo⟩, ko⟩ := hk p List.mem_cons_self
    obtain ⟨j1, j2, j3⟩ := shI ko
    rw [List.map_cons]
    refine ⟨?_, ?_, ?_⟩
    · simp only [PyData.showableKv, PyData.showable, i1, j1]
      rfl
    · have c1 : PyData.leavesShort 2000 (.str p.1) = true := by
        rw [e]
        simp only [PyData.leavesShort]
        rw [List.all_eq_true]
        intro c hc
        have := lo c hc
        exact decide_eq_true (by omega)
      simp only [PyData.leavesShortKv, c1, j2, i2]
      rfl
    · have : p.1.cps.size = l.length := by rw [e]; exact S_len l
      simp only [PyData.bulkKv, PyData.bulk, this, List.length_cons]
      omega
theorem sh_tabO {m : TabO} (hl : m.length ≤ 100) (hk : ∀ p ∈ m, Nm p.1 ∧ OkI p.2) : shOk (pdO m) = true := by
  obtain ⟨i1, i2, i3⟩ := sh_rowsO m hk
  unfold shOk pdO
  simp only [PyData.showable, PyData.leavesShort, PyData.bulk, i1, i2]
  exact decide_eq_true (by omega)
theorem rdDO_ref {b : Bool} {n i : Nat} {k : List (D × D)} (e : h[i]? = some (.dct false k)) : rdD b h (n + 1) (.ref i) = if b = true then none else rdM (k.map (·.1)) (mapO (rdD b h n) (k.map (·.2))) := by
  rw [rdD]
  simp only [e]
theorem rdDO_dct {b : Bool} {n : Nat} {ks xs : List D} : rdD b h (n + 1) (.dct false ks xs) = if b = true then none else rdM ks (mapO (rdD b h n) xs) := by
  rw [rdD]
theorem reprO_ref {i : Nat} {m : TabO} (e : h[i]? = some (.dct false (kvs D.str oi m))) (hs : shOk (pdO m) = true) : bReprA [.ref i] h = some (.str (txO m), h) := by
  have e1 : rdD true h 12 (.ref i) = none := rdDO_ref (n := 11) e
  have e2 : rdD false h 12 (.ref i) = some (pdO m) := (rdDO_ref (n := 11) e).trans (rdM_tabO m)
  unfold bReprA
  simp only [e1, e2, hs, if_true]
  rfl
theorem reprO_frz {m : TabO} (hs : shOk (pdO m) = true) : bReprA [optD m] h = some (.str (txO m), h) := by
  have e1 : rdD true h 12 (optD m) = none := rdDO_dct (n := 11)
  have e2 : rdD false h 12 (optD m) = some (pdO m) := (rdDO_dct (n := 11)).trans (rdM_tabO m)
  unfold bReprA
  simp only [e1, e2, hs, if_true]
  rfl
theorem merge_tabO : ∀ (rest acc : TabO), ((acc ++ rest).map (·.1)).Nodup → mergeP (kvs D.str oi acc) (kvs D.str oi rest) = some (kvs D.str oi (acc ++ rest))
  | [], acc, _ => by rw [List.append_nil]; rfl
  | (s, a) :: rest, acc, nd => by
    have e : st acc s a = acc ++ [(s, a)] := by
      unfold st
      have : lk acc s = none := lk_none.mpr fun hm => by
        rw [List.map_append] at nd
        exact (List.nodup_append.mp nd).2.2 s hm s (by simp) rfl
      rw [this]
      rfl
    have ih := merge_tabO rest (acc ++ [(s, a)]) (by rw [List.append_assoc]; exact nd)
    show mergeP (putP keyOf (kvs D.str oi acc) (.str s) (.inr s) (oi a)) (kvs D.str oi rest) = _
    have := putP_kvs (kd := D.str) (f := oi) kdS (m := acc) (a := s) (v := a)
    rw [this, e, ih, List.append_assoc]
    rfl
theorem pair_rowsO : ∀ t : TabO, mapO pairOf (t.map fun p => D.tup [.str p.1, oi p.2]) = some (kvs D.str oi t)
  | [] => rfl
  | p :: t => by
    have ih := pair_rowsO t
    rw [List.map_cons, mapO, ih]
    rfl
theorem dictP_rowsO {t : TabO} (nd : (t.map (·.1)).Nodup) : bDictPZ [.lst (t.map fun p => D.tup [.str p.1, oi p.2])] h = some (optD t, h) := by
  have := merge_tabO t [] (by simpa using nd)
  unfold bDictPZ
  simp only [lstOf, Option.bind_some, pair_rowsO]
  rw [show mergeP [] (kvs D.str oi t) = some (kvs D.str oi t) from this]
  rfl
theorem get1_of {β : Type} {f : β → D} {m : List (Str × β)} {s : Str} {d : D} (e : dctOf h d = some (false, kvs D.str f m)) : mGet d [.str s] h = some (((lk m s).map f).getD .non, h) := by
  have : dlook false (kvs D.str f m) (.str s) = some ((lk m s).map f) := by
    show (keyOf (.str s)).map (lookP keyOf (kvs D.str f m)) = _
    have k := lookP_kvs (kd := D.str) (f := f) kdS (m := m) (a := s)
    simp only [keyOf, Option.map_some] at k ⊢
    rw [k]
  simp only [mGet, e, Option.bind_some, this, Option.map_some]
theorem oi_get {m : TabI} {s : Str} : ((lk m s).map D.int).getD .non = oi (lk m s) := by cases lk m s <;> rfl
/-- the table that is told of a search's -/
def told (m : TabI) (ns : List Str) : TabO := ns.map fun v => (v, lk m v)
theorem told_keys {m : TabI} {ns : List Str} : (told m ns).map (·.1) = ns := by
  unfold told
  rw [List.map_map]
  exact List.map_id' ns
theorem told_eq {m m' : TabI} (e : ∀ v, lk m v = lk m' v) (ns : List Str) : told m ns = told m' ns := by
  unfold told
  simp only [e]
theorem isD_frz {t : Bool} {ks xs : List D} : isD h (.dct t ks xs) = true := rfl
theorem sort_lst {xs : List Str} (hl : xs.length ≤ 1000) : ∃ ns : List Str, bSort [.lst (xs.map D.str)] h = some (.lst (ns.map D.str), h) ∧ ns.Perm xs ∧ ns.Pairwise SLe := by
  have e1 : itemsS h (.lst (xs.map D.str)) = some (xs.map D.str) := rfl
  obtain ⟨ys, e2, pm, pw⟩ := sort_any (P := fun q => ∃ s, q = .str s) e1 (by simp; omega) (fun x hx => by
    obtain ⟨s, _, rfl⟩ := List.mem_map.mp hx
    exact ⟨_, rfl, s, rfl⟩) (by rintro _ _ ⟨a, rfl⟩ ⟨b, rfl⟩; rw [PySem.W.alike]) (.inr (by rintro _ ⟨a, rfl⟩; rfl))
  obtain ⟨zs, rfl, pz⟩ := perm_map pm
  have pw2 : zs.Pairwise fun a b => PySem.W.dataLe false (datD h) (D.str a) (D.str b) = true := List.pairwise_map.mp pw
  exact ⟨zs, e2, pz, pw2⟩
theorem wy_mem {rs rs' : List Ro} (e : ∀ r, r ∈ rs → r ∈ rs') {u v : Str} {d : Int} {k : Nat} (w : Wy rs u v d k) : Wy rs' u v d k := by
  induction w with
  | nil => exact .nil
  | step _ hr hv ih => exact .step ih (e _ hr) hv
theorem tbl_mem {rs rs' : List Ro} (e : ∀ r, r ∈ rs ↔ r ∈ rs') {u : Str} {n : Nat} {m : TabI} (t : Tbl rs u n m) : Tbl rs' u n m :=
  ⟨fun v d q => let ⟨k, h, w⟩ := t.way v d q; ⟨k, h, wy_mem (fun r => (e r).mp) w⟩, fun v d k w => t.low v d k (wy_mem (fun r => (e r).mpr) w)⟩
theorem tbl_okI {rs : List Ro} {u : Str} {n : Nat} {m : TabI} (h1 : ∀ r ∈ rs, 1 ≤ r.use) (h2 : ∀ r ∈ rs, r.use ≤ 10 ^ 30) (hn : n ≤ 10) (t : Tbl rs u n m) (v : Str) : OkI (lk m v) := fun a e => by
  obtain ⟨k, hk, w⟩ := t.way v a e
  have := w.nn h1
  have := w.up h2
  have : (k : Int) * 10 ^ 30 ≤ 10 * 10 ^ 30 := Int.mul_le_mul_of_nonneg_right (by omega) (by decide)
  exact ⟨by omega, by omega⟩

end
section
open PySem PySem.Spec PyProof.Rows L2
section
variable {h : Hh} {M : Net} {i : Nat}
theorem it_first {a b : D} : oIt (.tup [a, b]) (.int 0) h = some a := (atI_nat (j := 0) rfl : atI [a, b] ((0 : Nat) : Int) = some a)
theorem pu_names_of {N : Net} (ok : N.Ok) (sm : Same M N) (so : Srt M) : s__law_names_of [N.d] h = .ok (.lst (M.names.map .str)) h := by
  have hn10 : N.names.length ≤ 10 := by unfold Net.names; rw [List.length_map]; exact ok.p2
  obtain ⟨ns, e1, pm, pw⟩ := sort_lst (h := h) (xs := N.names) (by omega)
  have en : ns = M.names := sle_eq pw so.nm (pm.trans sm.names.symm)
  rw [en] at e1
  unfold s__law_names_of
  refine (lenI_eq rfl).trans ?_
  refine gc_pure0 (List.all_eq_true.mpr fun x hx => by
    obtain ⟨r, _, rfl⟩ := List.mem_map.mp hx
    rfl) ?_
  rw [w_run]
  unfold k__law_names_of
  walk_at "DL.S"
  refine w_cmap nmOf (by exact trivial) _ _ (fun x hx => ⟨_, rfl, ?_⟩) ?_
  · obtain ⟨p, _, rfl⟩ := List.mem_map.mp hx
    rw [w_tys]
    refine ⟨rfl, rfl, ?_⟩
    walk_at "DL.S"
    first | exact ⟨rfl, rfl⟩ | rfl
  rw [List.nil_append, nmOf_pls]
  walk_at "DL.S"
  first | exact ⟨_, _, e1, rfl, rfl⟩ | exact ⟨_, e1, rfl, rfl⟩
end
/-! ### the law's own search -/
section
variable {h : Hh}
theorem pu_least {N : Net} (ok : N.Ok) {s : Str} (hs : s ∈ N.names) : ∃ m, s__law_least_uses [N.d, .str s] h = .ok (intD m) h ∧ Rd N.rds s N.pls.length m := by
  have hn10 : N.names.length ≤ 10 := by unfold Net.names; rw [List.length_map]; exact ok.p2
  have gg : ∃ v, gcF (fun _ => []) (runB 6 (k__law_least_uses)) [N.d, .str s] h = .ok v h ∧ ∃ m, v = intD m ∧ Rd N.rds s N.pls.length m := by
    refine gc_pureE ?_
    rw [w_run]
    unfold k__law_least_uses
    walk_at "DL.S"
    have hp2 := ok.p2
    refine ⟨rng_ok (by omega) (by rw [List.length_map]; omega), ?_⟩
    refine w_loopI (fun t de h' => ∃ m d3 d4 d5 d6 d7, de = [some N.d, some (.str s), some (.ref h.length), d3, d4, d5, d6, d7] ∧ h' = h ++ [.dct false (kvs D.str D.int m)] ∧ Rd N.rds s t m ∧ (m.map (·.1)).Nodup ∧ ∀ v d, lk m v = some d → v ∈ N.names) (by intros; exact trivial) ?_ ?_ ⟨[(s, 0)], _, _, _, _, _, rfl, rfl, .start, by simp, ?_⟩
    · rintro t x _ _ hx ⟨m, d3, d4, d5, d6, d7, rfl, rfl, R, nd, ks⟩
      obtain ⟨ht, rfl⟩ := ups_get hx
      refine ⟨_, _, rfl, ?_⟩
      walk_at "DL.S"
      refine w_loopI (fun k de h' => ∃ m' d4 d5 d6 d7, de = [some N.d, some (.str s), some (.ref h.length), some (.int (0 + t)), d4, d5, d6, d7] ∧ h' = h ++ [.dct false (kvs D.str D.int m')] ∧ RdI N.rds s m k m' ∧ (m'.map (·.1)).Nodup ∧ ∀ v d, lk m' v = some d → v ∈ N.names) (by intros; exact trivial) ?_ ?_ ⟨m, _, _, _, _, rfl, rfl, .start R, nd, ks⟩
      · clear nd ks
        rintro k y _ _ hy ⟨m', d4, d5, d6, d7, rfl, rfl, RI, nd, ks⟩
        rw [List.getElem?_map] at hy
        cases q0 : N.rds[k]? with
        | none => rw [q0] at hy; cases hy
        | some r =>
          rw [q0] at hy
          cases hy
          have hr := List.mem_of_getElem? q0
          have hrv : r.v ∈ N.names := (ok.rk r hr).1.2.1
          have ml := keys_len nd ks
          have em := get_last (xs := h) (a := AO.dct false (kvs D.str D.int m'))
          have put : ∀ c, lk m' r.u = some c → (∀ x, lk m' r.v = some x → c + r.use ≤ x) → RdI N.rds s m (k + 1) (st m' r.v (c + r.use)) ∧ ((st m' r.v (c + r.use)).map (·.1)).Nodup ∧ ∀ v d, lk (st m' r.v (c + r.use)) v = some d → v ∈ N.names := fun c hc hx => ⟨RI.put q0 hc hx, st_nodup nd, fun v d q => by
            rw [lk_st] at q
            by_cases z : v = r.v
            · rw [z]; exact hrv
            · rw [if_neg z] at q; exact ks v d q⟩
          refine ⟨_, _, gt3, ?_⟩
          walk_at "DL.S"
          refine ⟨isD_ref em, ?_⟩
          walk_at "DL.S"
          refine ⟨_, _, getM_of (f := D.int) (dct_ref em), ?_⟩
          cases q1 : lk m' r.u with
          | none =>
            walk_at "DL.S"
            refine ⟨_, oIn_of (inS_of (f := D.int) (s := r.u) (dct_ref em) (fun _ z => nomatch z)), ?_⟩
            rw [q1]
            walk_at "DL.S"
            exact ⟨m', _, _, _, _, rfl, rfl, RI.skip q0 (fun c q => by rw [q1] at q; cases q), nd, ks⟩
          | some c =>
            walk_at "DL.S"
            refine ⟨_, oIn_of (inS_of (f := D.int) (s := r.u) (dct_ref em) (fun _ z => nomatch z)), ?_⟩
            rw [q1]
            walk_at "DL.S"
            refine ⟨_, oNin_of (inS_of (f := D.int) (s := r.v) (dct_ref em) (fun _ z => nomatch z)), ?_⟩
            cases q2 : lk m' r.v with
            | none =>
              obtain ⟨z1, z2, z3⟩ := put c q1 fun x q => by rw [q2] at q; cases q
              walk_at "DL.S"
              refine ⟨_, _, gsb_ok rfl rfl (setS_at (f := D.int) (s := r.v) (v := c + r.use) em (by omega)), ?_⟩
              rw [set_last]
              exact ⟨_, _, _, _, _, rfl, rfl, z1, z2, z3⟩
            | some x =>
              walk_at "DL.S"
              refine ⟨_, getS_of (f := D.int) (dct_ref em) q2 (fun _ z => nomatch z), ?_⟩
              walk_at "DL.S"
              refine ⟨fun q3 => ?_, fun q3 => ?_⟩
              · have q3 : c + r.use < x := of_decide_eq_true q3
                obtain ⟨z1, z2, z3⟩ := put c q1 fun x' q => by rw [q2] at q; cases q; omega
                walk_at "DL.S"
                refine ⟨_, _, gsb_ok rfl rfl (setS_at (f := D.int) (s := r.v) (v := c + r.use) em (by omega)), ?_⟩
                rw [set_last]
                exact ⟨_, _, _, _, _, rfl, rfl, z1, z2, z3⟩
              · have q3 : ¬ c + r.use < x := of_decide_eq_false q3
                walk_at "DL.S"
                exact ⟨m', _, _, _, _, rfl, rfl, RI.skip q0 (fun c' q => by rw [q1] at q; cases q; exact ⟨x, q2, by omega⟩), nd, ks⟩
      · rintro _ _ ⟨m', d4, d5, d6, d7, rfl, rfl, RI, nd', ks'⟩
        rw [List.length_map] at RI
        exact ⟨m', _, _, _, _, _, rfl, rfl, RI.fin R, nd', ks'⟩
    · rintro _ _ ⟨m, d3, d4, d5, d6, d7, rfl, rfl, R, nd, ks⟩
      walk_at "DL.S"
      have e5 : (Src.mk none (ups 0 ((((N.pls.map Pl.d).length : Nat) : Int)).toNat)).items.length = N.pls.length := by
        show (ups 0 _).length = _
        rw [ups_len, List.length_map]
        omega
      rw [e5] at R
      exact ⟨_, _, rfl, norm_dct (t := false) (kvs := kvs D.str D.int m) (Nat.zero_le _) (Nat.le_refl _) (get_last) (ints_flat m), m, rfl, R⟩
    · intro v d q
      by_cases z : s = v
      · rw [← z]; exact hs
      · simp [lk, z] at q
  obtain ⟨v, e1, m, rfl, q⟩ := gg
  exact ⟨m, (lenI_eq rfl).trans e1, q⟩
end

end
section
open PySem PySem.Spec PyProof.Rows L2
/-! ### ways as rows of places -/
/-- each place and the next one are a road's; its use -/
def StU (rs : List Ro) : List Str → List Int → Prop
  | [_], [] => True
  | x :: y :: l, c :: us => (∃ r ∈ rs, r.u = x ∧ r.v = y ∧ r.use = c) ∧ StU rs (y :: l) us
  | _, _ => False
theorem StU.len {rs : List Ro} : ∀ {l : List Str} {us : List Int}, StU rs l us → l.length = us.length + 1
  | [], [], h => h.elim
  | [], _ :: _, h => h.elim
  | [_], [], _ => rfl
  | [_], _ :: _, h => h.elim
  | _ :: _ :: _, [], h => h.elim
  | x :: y :: l, c :: us, h => by
    have := h.2.len
    simp only [List.length_cons] at this ⊢
    omega
theorem StU.get {rs : List Ro} : ∀ {l : List Str} {us : List Int} {k : Nat} {c : Int}, StU rs l us → us[k]? = some c → ∃ r ∈ rs, l[k]? = some r.u ∧ l[k + 1]? = some r.v ∧ r.use = c
  | [], [], _, _, h, _ => h.elim
  | [], _ :: _, _, _, h, _ => h.elim
  | [_], [], _, _, _, e => by simp at e
  | [_], _ :: _, _, _, h, _ => h.elim
  | _ :: _ :: _, [], _, _, h, _ => h.elim
  | x :: y :: l, c' :: us, 0, c, h, e => by
    cases e
    obtain ⟨r, hr, e1, e2, e3⟩ := h.1
    exact ⟨r, hr, by rw [e1]; rfl, by rw [e2]; rfl, e3⟩
  | x :: y :: l, c' :: us, k + 1, c, h, e => by
    obtain ⟨r, hr, e1, e2, e3⟩ := h.2.get (k := k) (by simpa using e)
    exact ⟨r, hr, by simpa using e1, by simpa using e2, e3⟩
theorem StU.mem {rs rs' : List Ro} (e : ∀ r, r ∈ rs → r ∈ rs') : ∀ {l : List Str} {us : List Int}, StU rs l us → StU rs' l us
  | [], [], h => h.elim
  | [], _ :: _, h => h.elim
  | [_], [], _ => trivial
  | [_], _ :: _, h => h.elim
  | _ :: _ :: _, [], h => h.elim
  | x :: y :: l, c :: us, h => ⟨let ⟨r, hr, z⟩ := h.1; ⟨r, e r hr, z⟩, StU.mem e h.2⟩
/-- a way that is told: its first and its last place, its use -/
structure WayOk (rs : List Ro) (s v : Str) (d : Int) (ps : List Str) : Prop where
  us : ∃ us, StU rs ps us ∧ us.sum = d
  hd : ps.head? = some s
  la : ps.getLast? = some v
  ln : ps.length ≤ 10
  ok : ∀ x ∈ ps, Nm x
section
variable {h : Hh} {M : Net} {i : Nat}
theorem it_last {i : Nat} {xs : List D} {a : D} (e : h[i]? = some (.lst (xs ++ [a]))) : oIt (.ref i) (.int (-1)) h = some a := by
  have hd : dctOf h (.ref i) = none := by unfold dctOf; simp only [e]
  have hs : seqOf h (.ref i) = some (xs ++ [a]) := by simp [seqOf, lst_at e]
  show (match dctOf h (.ref i) with
    | some (t, kvs) => (dlook t kvs (.int (-1))).bind id
    | none => (seqOf h (.ref i)).bind fun xs => atI xs (-1)) = _
  rw [hd, hs]
  show atI (xs ++ [a]) (-1) = some a
  have : ixN (xs ++ [a]).length (-1) = some xs.length := by
    unfold ixN
    simp only [List.length_append, List.length_cons, List.length_nil]
    rw [if_neg (by omega), if_pos (by omega)]
    congr 1
    omega
  unfold atI
  rw [this]
  simp
theorem strs_tup {k : Nat} (l : List Str) : flatN 0 (k + 2) (.tup (l.map D.str)) = true := List.all_eq_true.mpr fun x hx => by
  obtain ⟨r, _, rfl⟩ := List.mem_map.mp hx
  rfl
/-- the way backwards -/
structure Bck (M : Net) (m : TabI) (v : Str) (d : Int) (x : Str) (L : List Str) (c : Int) : Prop where
  us : ∃ us, StU M.rds L us ∧ us.sum = d - c
  hd : ∃ l, L = x :: l
  la : L.getLast? = some v
  cx : lk m x = some c
  nd : L.Nodup
  mem : ∀ y ∈ L, y ∈ M.names ∧ ∃ cy, lk m y = some cy ∧ c ≤ cy
theorem pu_way (ok : M.Ok) (e : h[i]? = some (netO M)) {s v : Str} (hs : s ∈ M.names) (hv : v ∈ M.names) {n : Nat} {m : TabI} (T : Tbl M.rds s n m) : ∃ r, s_way [.ref i, .str s, .str v] h = .ok r h ∧
    ((r = .non ∧ lk m v = none) ∨ ∃ ps d, r = .tup (ps.map D.str) ∧ lk m v = some d ∧ WayOk M.rds s v d ps) := by
  have hi : i < h.length := (List.getElem?_eq_some_iff.mp e).1
  have hn10 : M.names.length ≤ 10 := by unfold Net.names; rw [List.length_map]; exact ok.p2
  obtain ⟨m0, b0, e0, S⟩ := pu_searched ok e hs
  have eq : ∀ v, lk m v = lk m0 v := tbl_tbl T S.tbl
  have pos : ∀ r ∈ M.rds, 1 ≤ r.use := fun r hr => (ok.rk r hr).2.1
  have key : ∃ r, gcF (fun _ => []) (runB 3 (k_way s_m_need_place s_searched)) [.ref i, .str s, .str v] h = .ok r h ∧
      ((r = .non ∧ lk m v = none) ∨ ∃ ps d, r = .tup (ps.map D.str) ∧ lk m v = some d ∧ WayOk M.rds s v d ps) := by
    refine gc_pureE ?_
    rw [w_run]
    unfold k_way
    walk_at "DL.S"
    refine ⟨⟨_, _, ins_at e⟩, ?_⟩
    walk_at "DL.S"
    refine wr_eq (pu_need_place ok e hs) ?_
    walk_at "DL.S"
    refine ⟨⟨_, _, ins_at e⟩, ?_⟩
    walk_at "DL.S"
    refine wr_eq (pu_need_place ok e hv) ?_
    walk_at "DL.S"
    refine wr_eq e0 ?_
    walk_at "DL.S"
    refine ⟨_, oNin_of (inS_of (f := D.int) (s := v) dct_frz (fun _ z => nomatch z)), ?_⟩
    cases q : lk m0 v with
    | none =>
      walk_at "DL.S"
      exact ⟨[], _, by simp, rfl, .inl ⟨rfl, (eq v).trans q⟩⟩
    | some d =>
      walk_at "DL.S"
      refine w_while (fun mm de h' => ∃ x L c, de = [some (.ref i), some (.str s), some (.str v), some (intD m0), some (strD b0), some (.ref h.length)] ∧ h' = h ++ [.lst (L.reverse.map .str)] ∧ Bck M m0 v d x L c ∧ mm = c.toNat) ?_ _ d.toNat _ _ ?_ ?_
      · rintro mm _ _ ⟨x, L, c, rfl, rfl, B, rfl⟩
        obtain ⟨l, rfl⟩ := B.hd
        have hx := (B.mem x List.mem_cons_self).1
        have ll : (x :: l).length ≤ 10 := Nat.le_trans (nd_len B.nd fun y hy => (B.mem y hy).1) hn10
        have g0 : (h ++ [AO.lst ((x :: l).reverse.map D.str)])[h.length]? = some (AO.lst (l.reverse.map D.str ++ [D.str x])) := by simp
        walk_at "DL.S"
        refine ⟨_, it_last g0, ?_⟩
        walk_at "DL.S"
        refine ⟨_, ne_str (ok.nms x hx).ok (ok.nms s hs).ok, ?_⟩
        walk_at "DL.S"
        refine ⟨fun q1 => ?_, fun q1 => ?_⟩
        · have hne : x ≠ s := by simpa using q1
          walk_at "DL.S"
          obtain ⟨y, ey⟩ := S.ba x c B.cx hne
          obtain ⟨r, hr, ru, rv, dy, ey1, ey2⟩ := S.bf x y ey
          have h1 := pos r hr
          have ec : c = dy + r.use := by
            have := B.cx
            rw [ey2] at this
            exact (Option.some.inj this).symm
          obtain ⟨k', _, wk⟩ := S.tbl.way y dy ey1
          have dn := wk.nn pos
          have ny : y ∉ x :: l := fun hm => by
            obtain ⟨_, cy, e1, e2⟩ := B.mem y hm
            rw [ey1] at e1
            cases e1
            omega
          refine ⟨isL_at g0, ?_⟩
          walk_at "DL.S"
          refine ⟨_, it_last g0, ?_⟩
          refine ⟨_, getS_of (f := D.str) dct_frz ey (fun _ z => nomatch z), ?_⟩
          walk_at "DL.S"
          refine ⟨_, _, app_at g0 (by simp at ll ⊢; omega), dy.toNat, by omega, y, y :: x :: l, dy, rfl, ?_, ⟨?_, ⟨_, rfl⟩, ?_, ey1, List.nodup_cons.mpr ⟨ny, B.nd⟩, fun z hz => ?_⟩, rfl⟩
          · simp
          · obtain ⟨us, su, sd⟩ := B.us
            exact ⟨r.use :: us, ⟨⟨r, hr, ru, rv, rfl⟩, su⟩, by rw [List.sum_cons, sd]; omega⟩
          · rw [List.getLast?_cons_cons]; exact B.la
          · rcases List.mem_cons.mp hz with rfl | hz
            · exact ⟨S.ks _ _ ey1, dy, ey1, Int.le_refl _⟩
            · obtain ⟨h2, cz, h3, h4⟩ := B.mem z hz
              exact ⟨h2, cz, h3, by omega⟩
        · have hxe : x = s := by simpa using q1
          subst hxe
          have c0 : c = 0 := by
            have := B.cx
            rw [S.st] at this
            exact (Option.some.inj this).symm
          walk_at "DL.S"
          refine ⟨.lst ((x :: l).map D.str), ?_, ?_⟩
          · have : lstOf (h ++ [AO.lst ((x :: l).reverse.map D.str)]) (.ref h.length) = some ((x :: l).reverse.map D.str) := lst_at (by simp)
            unfold stepHL
            rw [this]
            simp
          walk_at "DL.S"
          refine ⟨[AO.lst ((x :: l).reverse.map D.str)], _, rfl, norm_flat (Nat.zero_le _) (strs_tup (x :: l)), .inr ⟨x :: l, d, rfl, (eq v).trans q, ?_⟩⟩
          obtain ⟨us, su, sd⟩ := B.us
          exact ⟨⟨us, su, by rw [sd, c0]; omega⟩, rfl, B.la, ll, fun y hy => ok.nms y (B.mem y hy).1⟩
      · obtain ⟨k, hk, w⟩ := S.tbl.way v d q
        have := w.up (B := 10 ^ 30) fun r hr => (ok.rk r hr).2.2
        have : (k : Int) * 10 ^ 30 ≤ 10 * 10 ^ 30 := Int.mul_le_mul_of_nonneg_right (by omega) (by decide)
        omega
      · exact ⟨v, [v], d, rfl, rfl, ⟨⟨[], trivial, by simp⟩, ⟨[], rfl⟩, rfl, q, by simp, fun y hy => by
          rw [List.mem_singleton.mp hy]
          exact ⟨hv, d, q, Int.le_refl _⟩⟩, rfl⟩
  obtain ⟨r, e1, q⟩ := key
  unfold s_way
  exact ⟨r, (lenI_eq rfl).trans e1, q⟩
end

end
section
open PySem PySem.Spec PyProof.Rows L2
section
variable {h : Hh}
theorem at_tup {xs : List D} {k : Nat} {i : Int} {x : D} (hi : i = k) (e : xs[k]? = some x) : oIt (.tup xs) (.int i) h = some x := by
  subst hi
  exact (atI_nat e : atI xs (k : Int) = some x)
theorem at_last {xs : List D} {a : D} (e : xs.getLast? = some a) : oIt (.tup xs) (.int (-1)) h = some a := by
  obtain ⟨l, rfl⟩ := List.getLast?_eq_some_iff.mp e
  show atI (l ++ [a]) (-1) = some a
  have : ixN (l ++ [a]).length (-1) = some l.length := by
    unfold ixN
    simp only [List.length_append, List.length_cons, List.length_nil]
    rw [if_neg (by omega), if_pos (by omega)]
    congr 1
    omega
  unfold atI
  rw [this]
  simp
abbrev TabP := List ((Str × Str) × Int)
def tabR (rs : List Ro) : TabP := rs.map fun r => (r.k, r.use)
theorem tabR_keys (rs : List Ro) : (tabR rs).map (·.1) = rs.map Ro.k := by unfold tabR; rw [List.map_map]; rfl
theorem tabR_lk {N : Net} (ok : N.Ok) {r : Ro} (hr : r ∈ N.rds) : lk (tabR N.rds) r.k = some r.use := lk_mem (by rw [tabR_keys]; exact ok.rn) (List.mem_map_of_mem (f := fun r : Ro => (r.k, r.use)) hr)
theorem merge_tabP : ∀ (rest acc : TabP), ((acc ++ rest).map (·.1)).Nodup → mergePT (kvs pairD D.int acc) (kvs pairD D.int rest) = some (kvs pairD D.int (acc ++ rest))
  | [], acc, _ => by rw [List.append_nil]; rfl
  | (s, a) :: rest, acc, nd => by
    have e : st acc s a = acc ++ [(s, a)] := by
      unfold st
      have : lk acc s = none := lk_none.mpr fun hm => by
        rw [List.map_append] at nd
        exact (List.nodup_append.mp nd).2.2 s hm s (by simp) rfl
      rw [this]
      rfl
    have ih := merge_tabP rest (acc ++ [(s, a)]) (by rw [List.append_assoc]; exact nd)
    show mergePT (putP tkeyOf (kvs pairD D.int acc) (pairD s) [.inr s.1, .inr s.2] (.int a)) (kvs pairD D.int rest) = _
    have := putP_kvs (kd := pairD) (f := D.int) kdP (m := acc) (a := s) (v := a)
    rw [this, e, ih, List.append_assoc]
    rfl
theorem pair_rowsP : ∀ t : TabP, mapO pairOf (t.map fun p => D.tup [pairD p.1, .int p.2]) = some (kvs pairD D.int t)
  | [] => rfl
  | p :: t => by
    have ih := pair_rowsP t
    rw [List.map_cons, mapO, ih]
    rfl
abbrev roadsD (t : TabP) : D := .dct true ((kvs pairD D.int t).map (·.1)) ((kvs pairD D.int t).map (·.2))
theorem dictT_rows {t : TabP} (nd : (t.map (·.1)).Nodup) : bDictTZ [.lst (t.map fun p => D.tup [pairD p.1, .int p.2])] h = some (roadsD t, h) := by
  have := merge_tabP t [] (by simpa using nd)
  unfold bDictTZ
  simp only [lstOf, Option.bind_some, pair_rowsP]
  rw [show mergePT [] (kvs pairD D.int t) = some (kvs pairD D.int t) from this]
  rfl
def rowG : D → D
  | .tup [u, v, c] => .tup [.tup [u, v], c]
  | d => d
theorem rowG_map (rs : List Ro) : (rs.map Ro.d).map rowG = (tabR rs).map fun p => D.tup [pairD p.1, .int p.2] := by
  unfold tabR
  rw [List.map_map, List.map_map]
  rfl
theorem take_sum {us : List Int} {k : Nat} {c : Int} (e : us[k]? = some c) : (us.take (k + 1)).sum = (us.take k).sum + c := by
  rw [List.take_succ, e, List.sum_append]
  simp
theorem pu_right {N : Net} (ok : N.Ok) {s v : Str} (hs : s ∈ N.names) {m : TabI} (T : Tbl N.rds s N.pls.length m) {r : D}
    (hr : (r = .non ∧ lk m v = none) ∨ ∃ ps d, r = .tup (ps.map D.str) ∧ lk m v = some d ∧ WayOk N.rds s v d ps) (hv : Nm v) : s__law_right [N.d, .str s, .str v, r] h = .ok (.bl true) h := by
  obtain ⟨m', el, R⟩ := pu_least (h := h) ok hs
  have eq : ∀ v, lk m v = lk m' v := tbl_eq T ⟨R.way, R.low⟩
  unfold s__law_right
  refine (lenI_eq rfl).trans ?_
  refine gc_pure0 rfl ?_
  rw [w_run]
  unfold k__law_right
  walk_at "DL.S"
  refine wr_eq el ?_
  walk_at "DL.S"
  refine ⟨_, _, get1_of (f := D.int) dct_frz, ?_⟩
  rw [oi_get, ← eq v]
  rcases hr with ⟨rfl, hr⟩ | ⟨ps, d, rfl, hd, Wo⟩
  · rw [hr]
    walk_at "DL.S"
    try rfl
  · rw [hd]
    obtain ⟨us, su, sd⟩ := Wo.us
    have hl := su.len
    have hln := Wo.ln
    have nd0 : decide (((ps.map D.str).length : Int) = 0) = false := decide_eq_false (by rw [List.length_map]; omega)
    have g0 : (ps.map D.str)[0]? = some (.str s) := by
      rw [List.getElem?_map, ← List.head?_eq_getElem?, Wo.hd]
      rfl
    have gl : (ps.map D.str).getLast? = some (.str v) := by
      rw [List.getLast?_map, Wo.la]
      rfl
    have gk : ∀ {k : Nat} {x : Str}, ps[k]? = some x → (ps.map D.str)[k]? = some (.str x) := fun {k x} e => by rw [List.getElem?_map, e]; rfl
    have hsN := ok.nms s hs
    walk_at "DL.S"
    rw [nd0]
    walk_at "DL.S"
    refine ⟨_, at_tup (k := 0) rfl g0, ?_⟩
    walk_at "DL.S"
    refine ⟨_, ne_str hsN.ok hsN.ok, ?_⟩
    rw [decide_eq_true rfl]
    walk_at "DL.S"
    refine ⟨_, at_last gl, ?_⟩
    walk_at "DL.S"
    refine ⟨_, ne_str hv.ok hv.ok, ?_⟩
    rw [decide_eq_true rfl]
    walk_at "DL.S"
    refine w_cmap rowG (by exact trivial) _ _ (fun x hx => ⟨_, rfl, ?_⟩) ?_
    · obtain ⟨q, _, rfl⟩ := List.mem_map.mp hx
      rw [w_tys]
      refine ⟨rfl, rfl, ?_⟩
      walk_at "DL.S"
      first | exact ⟨rfl, rfl⟩ | rfl
    rw [List.nil_append, rowG_map]
    walk_at "DL.S"
    refine ⟨_, _, dictT_rows (by rw [tabR_keys]; exact ok.rn), ?_⟩
    walk_at "DL.S"
    have en : (((ps.map D.str).length : Int) - 1).toNat = us.length := by rw [List.length_map]; omega
    refine ⟨rng_ok (by rw [List.length_map]; omega) (by rw [List.length_map]; omega), ?_⟩
    rw [en]
    refine w_loopI (fun k de h' => de = [some N.d, some (.str s), some (.str v), some (.tup (ps.map D.str)), some (.int d), some (roadsD (tabR N.rds)), some (.int (us.take k).sum), none, none, none] ∧ h' = h) (by intros; exact trivial) ?_ ?_ ⟨by simp; rfl, rfl⟩
    · rintro k x _ _ hx ⟨rfl, rfl⟩
      obtain ⟨hk, rfl⟩ := ups_get hx
      have ec : us[k]? = some us[k] := List.getElem?_eq_getElem hk
      obtain ⟨r, hr, e1, e2, e3⟩ := su.get ec
      have lr := tabR_lk ok hr
      refine ⟨_, _, rfl, ?_⟩
      walk_at "DL.S"
      refine ⟨_, at_tup (k := k) (by omega) (gk e1), ?_⟩
      walk_at "DL.S"
      refine ⟨_, at_tup (k := k + 1) (by omega) (gk e2), ?_⟩
      walk_at "DL.S"
      refine ⟨_, oNin_of (inP_of (f := D.int) (s := r.k) dct_frz (fun _ z => nomatch z)), ?_⟩
      rw [lr]
      walk_at "DL.S"
      refine ⟨_, at_tup (k := k) (by omega) (gk e1), ?_⟩
      walk_at "DL.S"
      refine ⟨_, at_tup (k := k + 1) (by omega) (gk e2), ?_⟩
      walk_at "DL.S"
      refine ⟨_, getP_of (f := D.int) (s := r.k) dct_frz lr (fun _ z => nomatch z), ?_⟩
      walk_at "DL.S"
      rw [take_sum ec, ← e3]
      exact ⟨rfl, rfl⟩
    · rintro _ h0 ⟨rfl, rfl⟩
      have e5 : (Src.mk none (ups 0 us.length)).items.length = us.length := ups_len
      rw [e5, List.take_length]
      walk_at "DL.S"
      rw [decide_eq_true sd]
      walk_at "DL.S"
      refine w_compI (fun j acc h' => acc = [] ∧ h' = h0) (by intros; exact trivial) ?_ ?_ ⟨rfl, rfl⟩
      · rintro j y _ _ hy ⟨rfl, rfl⟩
        rw [List.getElem?_map] at hy
        cases q2 : ps[j]? with
        | none => rw [q2] at hy; cases hy
        | some v =>
          rw [q2] at hy
          cases hy
          refine ⟨_, _, rfl, ?_⟩
          walk_at "DL.S"
          first | exact ⟨rfl, rfl⟩ | rfl
      · rintro _ _ ⟨rfl, rfl⟩
        walk_at "DL.S"
        rfl
end

end
section
open PySem PySem.Spec PyProof.Rows L2
theorem Pen.app {p : Nat} {h js : Hh} {b : Int} (P : Pen p h b) : Pen p (h ++ js) b := by
  have := P.lt
  obtain ⟨ns, a, r, e, h1, h2⟩ := P
  exact ⟨ns, a, r, by rw [List.getElem?_append_left this]; exact e, h1, h2⟩
theorem pu_pen {ns : List Int} : s__law_pen [.scr ns] [] = .ok (.ref 0) [penO (ns.take 63) 0 0] := by
  unfold s__law_pen
  refine (lenI_eq rfl).trans ?_
  have w : WR (runB 0 k__law_pen [.scr ns] []) fun d h' => d = .ref 0 ∧ h' = [penO (ns.take 63) 0 0] := by
    rw [w_run]
    unfold k__law_pen
    walk_at "DL.W"
    rw [w_alM, w_mdisp, w_pcons]
    walk_at "DL.W"
    have e1 : oCut (.scr ns) none (some 63) [] = some (.lst ((ns.take 63).map .int)) := by
      show some (D.lst (cutD (ns.map D.int) none (some 63))) = _
      rw [cutD_to (by decide), List.map_take]
      rfl
    refine ⟨_, rfl, ?_⟩
    refine ⟨_, e1, ?_⟩
    walk_at "DL.S"
    first | exact ⟨rfl, rfl⟩ | rfl
  obtain ⟨d, h', e2, rfl, rfl⟩ := w.of
  unfold gcF
  rw [e2]
  have c : gcC [] [penO (ns.take 63) 0 0] [0] := ⟨Nat.zero_le _, (fun j u hj _ => absurd hj (by simp)), by simp, fun k hk => by rw [List.mem_singleton.mp hk]; simp⟩
  have n2 : mapO (fun k => (([penO (ns.take 63) 0 0] : Hh)[k]?).bind (normO [penO (ns.take 63) 0 0] ([] : Hh).length [0] 12)) [0] = some [penO (ns.take 63) 0 0] := by
    unfold mapO
    have e1 : norm [penO (ns.take 63) 0 0] ([] : Hh).length [0] 12 (.lst ((ns.take 63).map .int)) = some (.lst ((ns.take 63).map .int)) := norm_flat (Nat.zero_le _) (List.all_eq_true.mpr fun x hx => by
      obtain ⟨i, _, rfl⟩ := List.mem_map.mp hx
      rfl)
    have : normO [penO (ns.take 63) 0 0] ([] : Hh).length [0] 12 (penO (ns.take 63) 0 0) = some (penO (ns.take 63) 0 0) := by
      show (mapO (fun p : D × D => (norm [penO (ns.take 63) 0 0] ([] : Hh).length [0] 12 p.2).map fun d => (p.1, d)) [(.str "cells", .lst ((ns.take 63).map .int)), (.str "at", .int 0), (.str "rest", .int 0)]).map (AO.dct false) = _
      unfold mapO
      rw [e1]
      rfl
    rw [show (([penO (ns.take 63) 0 0] : Hh)[0]?) = some (penO (ns.take 63) 0 0) from rfl, Option.bind_some, this]
    rfl
  simp only [c, if_true, n2]
  rfl
theorem strOk_tf (b : Bool) : PyData.strOk (if b then "True" else "False") = true := by cases b <;> decide +kernel

end
section
open PySem PySem.Spec PyProof.Rows L2
theorem alike_strs : ∀ ps : List Str, PySem.W.alikeAll (ps.map PyData.str) (ps.map PyData.str) = true
  | [] => rfl
  | p :: ps => by
    rw [List.map_cons, PySem.W.alikeAll, alike_strs ps]
    rfl
theorem ne_strs {h : Hh} {ps : List Str} (hs : ∀ x ∈ ps, PyData.strOk x = true) : oNeC (.tup (ps.map .str)) (.tup (ps.map .str)) h = some (.bl false) := by
  have e2 : dp h 12 (.tup (ps.map .str)) = some (.tuple (ps.map PyData.str)) := by
    show (match dpL (dp h 11) (ps.map D.str) with
      | some ps => some (PyData.tuple ps)
      | none => none) = _
    rw [dpL_strs]
  have e3 : PyData.canLay0 (.tuple (ps.map PyData.str)) = true := by
    simp only [PyData.canLay0]
    exact lay_strs hs
  have e4 : PyData.eqv (.tuple (ps.map PyData.str)) (.tuple (ps.map PyData.str)) = true := PySem.W.eqv_refl_alike _ (by
    rw [PySem.W.alike]
    exact alike_strs ps)
  have e5 : eqD h (.tup (ps.map .str)) (.tup (ps.map .str)) = some true := by
    unfold eqD
    simp only [e2, e3, e4]
    rfl
  unfold oNeC
  rw [e5]
  rfl
theorem ne_non {h : Hh} : oNeC .non .non h = some (.bl false) := rfl
theorem law_ok (ns : List Int) : WR (s_law [.scr ns] []) fun v _ => v = .bl true := by
  unfold s_law
  rw [w_run]
  unfold k_law
  walk_at "DL.S"
  refine wr_eq pu_pen ?_
  walk_at "DL.S"
  refine w_loopI (fun k de h' => ∃ d3 d4 d6 d7, de = [some (.scr ns), some (.ref 0), none, d3, d4, none, d6, d7] ∧ Pen 0 h' (100000 * k)) (by intros; exact trivial) ?_ ?_ ⟨_, _, _, _, rfl, ⟨ns.take 63, 0, 0, rfl, by omega, by omega⟩⟩
  · rintro k x _ h1 hx ⟨d3, d4, d6, d7, rfl, P⟩
    obtain ⟨hk, rfl⟩ := ups_get hx
    have hk4 : k < 5 := hk
    refine ⟨_, _, rfl, ?_⟩
    refine ws_cut (fun de h2 => ∃ N : Net, N.Ok ∧ de = [some (.scr ns), some (.ref 0), some (.int (0 + k)), some N.d, d4, none, d6, d7] ∧ Pen 0 h2 (100000 * k + 30000)) ?_ ?_
    · walk_at "DL.S"
      refine ⟨fun q => ?_, fun q => ?_⟩
      · walk_at "DL.S"
        refine (drw_small (by decide) (by decide) (by decide) (by decide)).at P (At.start P) (by omega) ?_
        rintro _ h2 A ⟨N, rfl, ok, _, _⟩
        exact ⟨N, ok, rfl, A.pen P⟩
      · walk_at "DL.S"
        refine (drw_great (by decide) (by decide) (by decide)).at P (At.start P) (by omega) ?_
        rintro _ h2 A ⟨N, rfl, ok⟩
        exact ⟨N, ok, rfl, A.pen P⟩
    clear P
    rintro _ h2 ⟨N, ok, rfl, P⟩
    obtain ⟨M, em, sm, so⟩ := pu_madeS (h := h2) ok
    have okM := sm.ok ok
    have eM : (h2 ++ [netO M])[h2.length]? = some (netO M) := by simp
    walk_at "DL.S"
    refine wr_eq em ?_
    walk_at "DL.S"
    refine wr_eq (pu_names_of ok sm so) ?_
    walk_at "DL.S"
    refine w_loopI (fun j de h3 => ∃ d6 d7, de = [some (.scr ns), some (.ref 0), some (.int (0 + k)), some N.d, some (.ref h2.length), none, d6, d7] ∧ h3 = h2 ++ [netO M]) (by intros; exact trivial) ?_ ?_ ⟨_, _, rfl, rfl⟩
    · rintro j y _ _ hy ⟨d6, d7, rfl, rfl⟩
      rw [List.getElem?_map] at hy
      cases q0 : M.names[j]? with
      | none => rw [q0] at hy; cases hy
      | some s =>
        rw [q0] at hy
        cases hy
        have hs := List.mem_of_getElem? q0
        have hsN := sm.names.mem_iff.mp hs
        obtain ⟨m0, b0, e0, S⟩ := pu_searched (h := h2 ++ [netO M]) okM eM hs
        have T : Tbl N.rds s N.pls.length m0 := by
          have := tbl_mem (rs' := N.rds) (fun r => sm.rds.mem_iff) S.tbl
          rw [show M.names.length = N.pls.length by rw [sm.names.length_eq]; unfold Net.names; rw [List.length_map]] at this
          exact this
        refine ⟨_, _, rfl, ?_⟩
        walk_at "DL.S"
        refine wr_eq (pu_names_of ok sm so) ?_
        walk_at "DL.S"
        refine w_loopI (fun l de h3 => ∃ d6 d7, de = [some (.scr ns), some (.ref 0), some (.int (0 + k)), some N.d, some (.ref h2.length), some (.str s), d6, d7] ∧ h3 = h2 ++ [netO M]) (by intros; exact trivial) ?_ ?_ ⟨_, _, rfl, rfl⟩
        · rintro l y _ _ hy ⟨d6, d7, rfl, rfl⟩
          rw [List.getElem?_map] at hy
          cases q1 : M.names[l]? with
          | none => rw [q1] at hy; cases hy
          | some v =>
            rw [q1] at hy
            cases hy
            have hv := List.mem_of_getElem? q1
            obtain ⟨r, er, hr⟩ := pu_way okM eM hs hv S.tbl
            have hrN : (r = .non ∧ lk m0 v = none) ∨ ∃ ps d, r = .tup (ps.map D.str) ∧ lk m0 v = some d ∧ WayOk N.rds s v d ps := by
              rcases hr with hr | ⟨ps, d, e1, e2, w⟩
              · exact .inl hr
              · obtain ⟨us, su, sd⟩ := w.us
                exact .inr ⟨ps, d, e1, e2, ⟨us, su.mem (fun r => sm.rds.mem_iff.mp), sd⟩, w.hd, w.la, w.ln, w.ok⟩
            refine ⟨_, _, rfl, ?_⟩
            walk_at "DL.S"
            refine wr_eq er ?_
            walk_at "DL.S"
            refine wr_eq (pu_right ok hsN T hrN (okM.nms v hv)) ?_
            walk_at "DL.S"
            refine wr_eq er ?_
            walk_at "DL.S"
            have hne : oNeC r r (h2 ++ [netO M]) = some (.bl false) := by
              rcases hr with ⟨rfl, _⟩ | ⟨ps, d, rfl, _, w⟩
              · exact ne_non
              · exact ne_strs fun x hx => (w.ok x hx).ok
            refine ⟨_, hne, ?_⟩
            walk_at "DL.S"
            first | exact ⟨_, _, rfl, rfl⟩ | rfl
        · rintro _ _ ⟨d6, d7, rfl, rfl⟩
          exact ⟨_, _, rfl, rfl⟩
    · rintro _ _ ⟨d6, d7, rfl, rfl⟩
      exact ⟨_, _, _, _, rfl, (P.app (js := [netO M])).mono (by omega)⟩
  · rintro _ h' ⟨d3, d4, d6, d7, rfl, P⟩
    walk_at "DL.S"
    try rfl

end
end DL

namespace DL
open PySem PySem.Spec PyProof.Rows L2
theorem facts {P : Program} {w : World} {K : PySem.W.Frag} {hp : Heap} {mg : Str → Option Value} {f : Addr} (X : K.In hp) (G : hp.Ns mainGlobals mg) (hfa : mg ("law" : Str) = some (.ref f)) (c : SaysP exL fnL K) :
    ∃ fd : FuncData, (∀ (s : Shared) (v : Value), BindsTo s fd ⟨[v], []⟩ [("_law_script", v)]) ∧ ∀ base : Heap, K.In base → base.Ns mainGlobals mg → FnOkG P w K mg base (L2.CX P w) 20 f fd ["_law_script"] (spD (mkG K (caN K)) 1 s_law) := by
  have e := hfa.symm.trans (He.glo_ok X G (fact c 27 (f := .glo "law")))
  cases e
  obtain ⟨fd, F⟩ := c.def_ 30 (d := df_law)
  exact ⟨fd, fun s v => FunD.bindsA (ps := ["_law_script"]) F (fun _ _ _ _ _ _ us hl => match us, hl with | [_], _ => rfl) s [v] rfl, fun base _ _ => t_lawF X G c F⟩
end DL
open PySem PySem.W PySem.Calls PyProof.Rows
set_option maxHeartbeats 0
theorem PySem.Challenge.cw_fillroads_k17_ways_of_least_use_holds : PySem.Challenge.rw_fillroads_k17_ways_of_least_use.Holds := by
  w_on; o_law
  refine HandSHeadRun.head_any (r := DL.Rr) (q := view DL.Rr.prog [DL.lastS]) (H := DL.hk) (ob := DL.ob) (M := 40000) (loose := DL.loose) (d := HandSHeadRun.topDef DL.Rr.prog DL.lastS) (kwd := []) DL.ob_eq
    (by kernel_rfl) (fun s => by kernel_rfl) DL.run (by kernel_rfl) (by kernel_rfl) (by kernel_rfl) (by rfl) (by first | assumption | decide +kernel) (by decide +kernel) ⟨rfl, rfl, rfl, rfl, rfl, by decide +kernel⟩ ?hw ?hc
  case hw => w_witness2
  case hc =>
    refine DL.walk_ofG (l := PySem.Challenge.rw_fillroads_k17_ways_of_least_use) (n := 63) (k := 20) (x := "_law_script") rfl (by decide) (by kernel_rfl) ⟨rfl, by decide, by decide⟩ ?F
    case F =>
      intro w mg fa h Y G hmg0
      obtain ⟨K, KX, c⟩ := Y
      have hmg : mg ("law" : PySem.Str) = some (.ref fa) := by
        have e : (HandSHeadRun.topDef DL.Rr.prog DL.lastS).name = ("law" : PySem.Str) := by kernel_rfl
        rw [← e]
        exact hmg0
      obtain ⟨fd, hb, hF⟩ := DL.facts (P := (PySem.Challenge.rw_fillroads_k17_ways_of_least_use).prog) (w := w) KX G hmg c
      exact ⟨K, fd, _, KX, hb, fun H a ns _ _ hS => DL.sp_law DL.law_ok hS, hF⟩
