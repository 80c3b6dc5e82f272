import PyProof.Rows.All
import Wide.All
import OpenK.AllK
import Wide.FinOn
import HandS.HeadHook4
import HandS.EndTab
import HandS.NestedK
import HandS.Head0
import HandS.Head1
import HandS.Head2
import HandS.HeadEnd
import HandS.ExcField
import HandS.ExcIs
import KE.KExcSuper
import HandS.ExcInit
import HandS.Words
import HandS.ForMost
import HandS.Exc
import HandS.Lambda
import HandS.ExcCtx
import HandS.SuiteRaise
import KE.KLam
import KE.KDictKeyed
import KE.KeyNested
import KE.KDictWalk
import HandS.Defaults
import HandS.Property
import HandS.WordsExc
import KE.GoesNewDict
import HandS.Zip
import PyProof.NeKinds
import HandS.TupAny
import HandS.TupMul
import HandS.TupLe
import HandS.TupLen
import HandS.Star
import HandS.IsInst
import HandS.Conv
import HandS.DictComp
import KE.SortData
import KE.OsSortAny
import HandS.MakeKwOnly
import HandS.GenList
import KE.GoesZip
import KE.GoesMore
import KE.GoesEnum
import KE.KDictZip
import HandS.DictEq
import HandS.Style
import HandS.Wide
import HandS.OwnEq
import OpenK.KMeth
import OpenK.KOps
import KE.KOpsOwn
import HandS.DictTup
import HandS.ListItems
import KE.KDictPairs
import PyProof.InstNe
import HandS.More
import HandS.Nested
import KE.DataMinKey
import HandS.TryMany
import HandS.TryElse
import HandS.ExcOwn
import PyProof.ExcBaseAll.ValueError
import HandS.Text
import HandS.Comp
import KE.KDictCopyH
import KE.KDictOf
import PyProof.TupleOfStr
import HandS.HotCalls
import PyProof.ZipIter
import KE.SortKeyHeap
import PyProof.SeqI3
import PyProof.SeqIndex
import KE.KUnpackStar
import HandS.TryOnly
import PyProof.StrBlock2
import PyProof.Rows.StrMul
import PySem.Challenge.RW_fewbounds_k31_whole_shelves
set_option Elab.async false
set_option linter.all false
set_option maxRecDepth 100000
set_option maxHeartbeats 0
section
namespace Mi
open PySem PySem.Spec PyProof.Rows L2
def tyName : Nat -> String
  | 0 => "int"
  | 1 => "str"
  | 2 => "bool"
  | 3 => "tuple"
  | 4 => "list"
  | 5 => "dict"
  | 6 => "NoneType"
  | 7 => "type"
  | _ => "object"
def isB (K : PySem.W.Frag) (adr : Nat -> Addr) (n : Nat) (sub : Nat -> Nat -> Bool) : Bool :=
  ((List.range n).all fun c => (List.range n).all fun d => decide (PySem.W.kitOne K (.ref (adr c)) (.ref (adr d)) = some (sub c d))) &&
  (((List.range n).all fun c => (List.range 6).all fun k => decide (PySem.W.kitOne K (.ref (adr c)) (.type (tyName k)) = some false)) &&
  (((List.range 7).all fun k => (List.range n).all fun d => decide (PySem.W.kitOne K (.type (tyName k)) (.ref (adr d)) = some false)) &&
  (((List.range n).all fun c => PySem.W.plainGet K (adr c) Str.empty && (PySem.W.hasDictIn K (adr c) && (PySem.W.plainOver K (adr c) && (He.eqO (PySem.W.findIn K (.ref (adr c)) "__setattr__") (some (some (.builtin "object.__setattr__"))) &&
    (He.eqO (PySem.W.findIn K (.ref (adr c)) "__class__") (some (some (.builtin "object.__class__"))) && decide (PySem.W.mroIn K (adr c) (.type "object") = some true)))))) &&
  (He.eqO (PySem.W.specialIn K (.builtin "object.__class__") "__get__") (some (some (.builtin "getset_descriptor.__get__"))) && decide (PySem.W.takesIn K (.builtin "object.__class__") = some true)))))
def pg (K : PySem.W.Frag) (p : Str × Option Str) : Addr := match PySem.W.recIn K (He.fAd K p) "property" with
  | some (.ref g :: _) => g
  | _ => 0
def fnWA (K : PySem.W.Frag) (a : Addr) : He.FnW := match K.lookup a with
  | some ⟨_, _, .func fd, _⟩ => some (fd.name, fd.qualname, fd.params, fd.body, fd.scope, fd.globals, fd.closure, fd.builtins)
  | _ => none
def okA (K : PySem.W.Frag) (d : He.DefD) (a : Addr) : Bool := PySem.W.keepIn K (.ref a) && (match K.lookup a with
  | some ⟨_, _, .func fd, _⟩ => PySem.W.codeIn K fd.code d.qual && (He.dflB K fd.defaults (d.dvs K) && He.kwdB K fd.kwdefaults (d.kws K))
  | _ => false)
def obsP (fp : List He.DefD) (K : PySem.W.Frag) : He.AlD := (fp.all fun d => okA K d (pg K d.at_), fp.map fun d => fnWA K (pg K d.at_))
def SaysP (fp : List He.DefD) (K : PySem.W.Frag) : Prop := obsP fp K = (true, fp.map He.DefD.val)
def propB (K : PySem.W.Frag) (p : Str × Option Str) : Bool := match p.2 with
  | some f => He.eqO (PySem.W.findIn K (.ref (He.ga K p.1)) f) (some (some (.ref (He.fAd K p)))) && (He.eqO (PySem.W.specialIn K (.ref (He.fAd K p)) "__get__") (some (some (.builtin "property.__get__"))) &&
    (decide (PySem.W.takesIn K (.ref (He.fAd K p)) = some true) && (match PySem.W.recIn K (He.fAd K p) "property" with
      | some (.ref _ :: _) => true
      | _ => false)))
  | none => false
structure SaysXT (fa : List He.Fa) (fn fp : List He.DefD) (tf : List He.Defn) (ex : PySem.W.Frag -> Bool) (h : Heap) (K : PySem.W.Frag) : Prop where
  d : He.SaysD fa fn K
  ex : ex K = true
  p : SaysP fp K
  hd : ∀ p ∈ tf, PySem.W.codeHdIn K (He.cT K p).1 (He.cT K p).2 = true
  out : ∀ p ∈ tf, K.lookup (He.cT K p).2 = none
  empty : ∀ p ∈ tf, h.get? (He.cT K p).2 = some { cls := .none, data := .fields #[] }
def tabsNd (tb : List (Addr × Str)) : Bool := decide ((tb.map (·.1)).Nodup)
def kitB (K : PySem.W.Frag) (C : Addr) (v : Value) (b : Bool) : Bool := decide (PySem.W.kitOne K (.ref C) v = some b)
section
open PySem.Calls PySem.W
end
section
open PySem.Calls PySem.W
end
def obsXL (as : List Addr) (fa : List He.Fa) (fn fp : List He.DefD) (tf : List He.Defn) (ex : PySem.W.Frag -> Bool) (g : Addr -> Option Obj) : (He.AlD × He.AlD) × Bool :=
  ((He.obsD fa fn (He.frT g as), obsP fp (He.frT g as)), ex (He.frT g as) && He.tabsB g tf (He.frT g as))
theorem saysXL_of {as : List Addr} {fa : List He.Fa} {fn fp : List He.DefD} {tf : List He.Defn} {ex : PySem.W.Frag -> Bool} {h : Heap} (e : obsXL as fa fn fp tf ex h.get? = ((He.valD fn, (true, fp.map He.DefD.val)), true)) : SaysXT fa fn fp tf ex h (He.frT h.get? as) := by
  have e2 : (ex (He.frT h.get? as) && He.tabsB h.get? tf (He.frT h.get? as)) = true := congrArg (fun z : (He.AlD × He.AlD) × Bool => z.2) e
  obtain ⟨h1, h2⟩ := He.ba e2
  have key : ∀ p ∈ tf, PySem.W.codeHdIn (He.frT h.get? as) (He.cT (He.frT h.get? as) p).1 (He.cT (He.frT h.get? as) p).2 = true /\ ∃ o, h.get? (He.cT (He.frT h.get? as) p).2 = some o /\ He.emptyTab o = true := fun p hp => by
    obtain ⟨h3, h4⟩ := He.ba (List.all_eq_true.mp h2 p hp)
    refine ⟨h3, ?_⟩
    cases q : h.get? (He.cT (He.frT h.get? as) p).2 with
    | none => rw [q] at h4; cases h4
    | some o => rw [q] at h4; exact ⟨o, rfl, h4⟩
  exact ⟨congrArg (fun z : (He.AlD × He.AlD) × Bool => z.1.1) e, h1, congrArg (fun z : (He.AlD × He.AlD) × Bool => z.1.2) e, fun p hp => (key p hp).1, fun p hp => by
    obtain ⟨_, o, q, z⟩ := key p hp
    exact He.frT_none q z, fun p hp => by
    obtain ⟨_, o, q, z⟩ := key p hp
    rw [q, He.emptyTab_eq z]⟩
def hookXL (as : List Addr) (fa : List He.Fa) (fn fp : List He.DefD) (tf : List He.Defn) (ex : PySem.W.Frag -> Bool) : PySem.W.Hook where
  α := (He.AlD × He.AlD) × Bool
  obs := fun s => obsXL as fa fn fp tf ex s.heap.get?
  val := fun _ => ((He.valD fn, (true, fp.map He.DefD.val)), true)
  says := fun _ h => ∃ K : PySem.W.Frag, K.In h /\ SaysXT fa fn fp tf ex h K
  of := fun _ s e => ⟨_, He.frT_in, saysXL_of e⟩
  keeps := fun _ _ _ ⟨K, hK, c⟩ k => ⟨K, PySem.W.Frag.In.keeps hK k, ⟨c.d, c.ex, c.p, c.hd, c.out, fun p hp => k _ _ (c.empty p hp)⟩⟩
theorem obsXL_eq {as : List Addr} {fa : List He.Fa} {fn fp : List He.DefD} {tf : List He.Defn} {ex : PySem.W.Frag -> Bool} {g : Addr -> Option Obj} {s : Shared} (h : ∀ a, g a = s.heap.get? a) : obsXL as fa fn fp tf ex g = (hookXL as fa fn fp tf ex).obs s := by
  have e : g = s.heap.get? := funext h
  subst e
  rfl
end Mi
end
section
namespace K31
open PySem PySem.Spec PyProof.Rows L2 Mi
abbrev pr : Program := PySem.Challenge.pw_fewbounds_k31_whole_shelves
@[irreducible] def P : Program := pr
def top (i : Nat) : Stmt := pr.main.body.getD i (.Pass ⟨0, 0, 0, 0⟩)
def cBody : Stmt -> List Stmt
  | .ClassDef (body := b) .. => b
  | _ => []
def mth (i j : Nat) : Stmt := (cBody (top i)).getD j (.Pass ⟨0, 0, 0, 0⟩)
def nC : Nat := 2
def subC (a b : Nat) : Bool := Nat.beq a b
def clsN : Nat -> Str
  | 0 => "Bound"
  | _ => "Shelf"
abbrev ga (K : PySem.W.Frag) : Nat -> Addr := fun n => He.ga K (clsN n)
def tfL : List He.Defn := []
def tqL : List Str := []
def tbs (K : PySem.W.Frag) : List (Addr × Str) := List.zipWith (fun p s => ((He.cT K p).2, s)) tfL tqL
abbrev dd__law_cell_at : He.DefD := ⟨("_law_cell_at", none), "_law_cell_at", "_law_cell_at", defArgs (top 27), defBody (top 27), defScope (top 27), [], []⟩
abbrev dd__law_draw : He.DefD := ⟨("_law_draw", none), "_law_draw", "_law_draw", defArgs (top 28), defBody (top 28), defScope (top 28), [], []⟩
abbrev dd__law_number : He.DefD := ⟨("_law_number", none), "_law_number", "_law_number", defArgs (top 29), defBody (top 29), defScope (top 29), [], []⟩
abbrev dd__law_next : He.DefD := ⟨("_law_next", none), "_law_next", "_law_next", defArgs (top 30), defBody (top 30), defScope (top 30), [], []⟩
abbrev dd__law_some : He.DefD := ⟨("_law_some", none), "_law_some", "_law_some", defArgs (top 32), defBody (top 32), defScope (top 32), [], []⟩
abbrev dd__law_pick : He.DefD := ⟨("_law_pick", none), "_law_pick", "_law_pick", defArgs (top 31), defBody (top 31), defScope (top 31), [], []⟩
abbrev dd__law_item : He.DefD := ⟨("_law_item", none), "_law_item", "_law_item", defArgs (top 33), defBody (top 33), defScope (top 33), [], []⟩
abbrev dd__law_two : He.DefD := ⟨("_law_two", none), "_law_two", "_law_two", defArgs (top 34), defBody (top 34), defScope (top 34), [], []⟩
abbrev dd__law_drawn : He.DefD := ⟨("_law_drawn", none), "_law_drawn", "_law_drawn", defArgs (top 35), defBody (top 35), defScope (top 35), [], []⟩
abbrev dd_is_name : He.DefD := ⟨("is_name", none), "is_name", "is_name", defArgs (top 14), defBody (top 14), defScope (top 14), [], []⟩
abbrev dd_is_integer : He.DefD := ⟨("is_integer", none), "is_integer", "is_integer", defArgs (top 13), defBody (top 13), defScope (top 13), [], []⟩
abbrev dd_are_versions : He.DefD := ⟨("are_versions", none), "are_versions", "are_versions", defArgs (top 15), defBody (top 15), defScope (top 15), [], []⟩
abbrev dd_Bound_init : He.DefD := ⟨("Bound", some "__init__"), "__init__", "Bound.__init__", defArgs (mth 16 0), defBody (mth 16 0), defScope (mth 16 0), [], [("cost", .int 1)]⟩
abbrev dd_are_packages : He.DefD := ⟨("are_packages", none), "are_packages", "are_packages", defArgs (top 17), defBody (top 17), defScope (top 17), [], []⟩
abbrev dd_are_others : He.DefD := ⟨("are_others", none), "are_others", "are_others", defArgs (top 19), defBody (top 19), defScope (top 19), [], []⟩
abbrev dd_is_item : He.DefD := ⟨("is_item", none), "is_item", "is_item", defArgs (top 18), defBody (top 18), defScope (top 18), [], []⟩
abbrev dd_are_needs : He.DefD := ⟨("are_needs", none), "are_needs", "are_needs", defArgs (top 20), defBody (top 20), defScope (top 20), [], []⟩
abbrev dd_is_break : He.DefD := ⟨("is_break", none), "is_break", "is_break", defArgs (top 21), defBody (top 21), defScope (top 21), [], []⟩
abbrev dd_is_request : He.DefD := ⟨("is_request", none), "is_request", "is_request", defArgs (top 22), defBody (top 22), defScope (top 22), [], []⟩
abbrev dd_is_bound_of : He.DefD := ⟨("is_bound_of", none), "is_bound_of", "is_bound_of", defArgs (top 23), defBody (top 23), defScope (top 23), [], []⟩
abbrev dd_Shelf_init : He.DefD := ⟨("Shelf", some "__init__"), "__init__", "Shelf.__init__", defArgs (mth 24 0), defBody (mth 24 0), defScope (mth 24 0), [], []⟩
abbrev dd__law_shelf : He.DefD := ⟨("_law_shelf", none), "_law_shelf", "_law_shelf", defArgs (top 36), defBody (top 36), defScope (top 36), [], []⟩
abbrev dd_Shelf_packages : He.DefD := ⟨("Shelf", some "packages"), "packages", "Shelf.packages", defArgs (mth 24 7), defBody (mth 24 7), defScope (mth 24 7), [], []⟩
abbrev dd_Shelf_requests : He.DefD := ⟨("Shelf", some "requests"), "requests", "Shelf.requests", defArgs (mth 24 8), defBody (mth 24 8), defScope (mth 24 8), [], []⟩
abbrev dd_Shelf_names : He.DefD := ⟨("Shelf", some "names"), "names", "Shelf.names", defArgs (mth 24 9), defBody (mth 24 9), defScope (mth 24 9), [], []⟩
abbrev dd_needed : He.DefD := ⟨("needed", none), "needed", "needed", defArgs (top 25), defBody (top 25), defScope (top 25), [], []⟩
abbrev dd_Shelf_needs : He.DefD := ⟨("Shelf", some "needs"), "needs", "Shelf.needs", defArgs (mth 24 10), defBody (mth 24 10), defScope (mth 24 10), [], []⟩
abbrev dd_Shelf___getitem__ : He.DefD := ⟨("Shelf", some "__getitem__"), "__getitem__", "Shelf.__getitem__", defArgs (mth 24 4), defBody (mth 24 4), defScope (mth 24 4), [], []⟩
abbrev dd_Bound_versions : He.DefD := ⟨("Bound", some "versions"), "versions", "Bound.versions", defArgs (mth 16 4), defBody (mth 16 4), defScope (mth 16 4), [], []⟩
abbrev dd_Bound_first : He.DefD := ⟨("Bound", some "first"), "first", "Bound.first", defArgs (mth 16 3), defBody (mth 16 3), defScope (mth 16 3), [], []⟩
abbrev dd_Bound_others : He.DefD := ⟨("Bound", some "others"), "others", "Bound.others", defArgs (mth 16 6), defBody (mth 16 6), defScope (mth 16 6), [], []⟩
abbrev dd_Bound_second : He.DefD := ⟨("Bound", some "second"), "second", "Bound.second", defArgs (mth 16 5), defBody (mth 16 5), defScope (mth 16 5), [], []⟩
abbrev dd_Bound_cost : He.DefD := ⟨("Bound", some "cost"), "cost", "Bound.cost", defArgs (mth 16 7), defBody (mth 16 7), defScope (mth 16 7), [], []⟩
abbrev dd_Bound___neg__ : He.DefD := ⟨("Bound", some "__neg__"), "__neg__", "Bound.__neg__", defArgs (mth 16 2), defBody (mth 16 2), defScope (mth 16 2), [], []⟩
abbrev dd_Bound___eq__ : He.DefD := ⟨("Bound", some "__eq__"), "__eq__", "Bound.__eq__", defArgs (mth 16 1), defBody (mth 16 1), defScope (mth 16 1), [], []⟩
abbrev dd_Shelf___contains__ : He.DefD := ⟨("Shelf", some "__contains__"), "__contains__", "Shelf.__contains__", defArgs (mth 24 3), defBody (mth 24 3), defScope (mth 24 3), [], []⟩
abbrev dd_Shelf_all_parts : He.DefD := ⟨("Shelf", some "all_parts"), "all_parts", "Shelf.all_parts", defArgs (mth 24 2), defBody (mth 24 2), defScope (mth 24 2), [], []⟩
abbrev dd_Shelf___eq__ : He.DefD := ⟨("Shelf", some "__eq__"), "__eq__", "Shelf.__eq__", defArgs (mth 24 1), defBody (mth 24 1), defScope (mth 24 1), [], []⟩
abbrev dd_Shelf___len__ : He.DefD := ⟨("Shelf", some "__len__"), "__len__", "Shelf.__len__", defArgs (mth 24 6), defBody (mth 24 6), defScope (mth 24 6), [], []⟩
abbrev dd__law_equal_right : He.DefD := ⟨("_law_equal_right", none), "_law_equal_right", "_law_equal_right", defArgs (top 38), defBody (top 38), defScope (top 38), [], []⟩
abbrev dd__law_one_right : He.DefD := ⟨("_law_one_right", none), "_law_one_right", "_law_one_right", defArgs (top 37), defBody (top 37), defScope (top 37), [], []⟩
abbrev dd_law : He.DefD := ⟨("law", none), "law", "law", defArgs (top 39), defBody (top 39), defScope (top 39), [], []⟩
def fnL : List He.DefD := [dd__law_cell_at, dd__law_draw, dd__law_number, dd__law_next, dd__law_some, dd__law_pick, dd__law_item, dd__law_two, dd__law_drawn, dd_is_name, dd_is_integer, dd_are_versions, dd_Bound_init, dd_are_packages, dd_are_others, dd_is_item, dd_are_needs, dd_is_break, dd_is_request, dd_is_bound_of, dd_Shelf_init, dd__law_shelf, dd_needed, dd_Shelf_needs, dd_Shelf___getitem__, dd_Bound___neg__, dd_Bound___eq__, dd_Shelf___contains__, dd_Shelf_all_parts, dd_Shelf___eq__, dd_Shelf___len__, dd__law_equal_right, dd__law_one_right, dd_law]
def fpL : List He.DefD := [dd_Shelf_packages, dd_Shelf_requests, dd_Shelf_names, dd_Bound_versions, dd_Bound_first, dd_Bound_others, dd_Bound_second, dd_Bound_cost]
def faL : List He.Fa := [.glo "Bound", .glo "Shelf", .glo "_law_cell_at", .glo "_law_draw", .glo "_law_number", .glo "_law_next", .glo "_law_some", .glo "_law_pick", .glo "_law_item", .glo "_law_two", .glo "_law_drawn", .glo "is_name", .glo "is_integer", .glo "are_versions", .glo "are_packages", .glo "are_others", .glo "is_item", .glo "are_needs", .glo "is_break", .glo "is_request", .glo "is_bound_of", .glo "_law_shelf", .glo "needed", .glo "_law_equal_right", .glo "_law_one_right", .glo "law", .free "all", .free "bool", .free "dict", .free "int", .free "isinstance", .free "len", .free "list", .free "max", .free "min", .free "range", .free "sorted", .free "str", .free "tuple", .free "zip", .str "LETTERS" "abcdefghijklmnopqrstuvwxyz", .int "MAX_BOUNDS" 6, .int "MAX_COST" 9, .int "MAX_NAME" 8, .int "MAX_PACKAGES" 5, .int "MAX_REQUESTS" 3, .int "MAX_VERSION" 3, .cls "Bound", .cls "Shelf", .noat "Shelf" "asked", .noat "Bound" "charge", .noat "Shelf" "clashes", .noat "Shelf" "lines", .noat "Shelf" "most", .noat "Bound" "sides", .noat "Shelf" "wants", .mkr "Bound", .mkr "Shelf", .meth "Shelf" "needs", .meth "Shelf" "__getitem__", .meth "Bound" "__neg__", .meth "Bound" "__eq__", .meth "Shelf" "__contains__", .meth "Shelf" "all_parts", .meth "Shelf" "__eq__", .meth "Shelf" "__len__"]
def exL (K : PySem.W.Frag) : List Bool := [propB K ("Shelf", some "packages"), propB K ("Shelf", some "requests"), propB K ("Shelf", some "names"), propB K ("Bound", some "versions"), propB K ("Bound", some "first"), propB K ("Bound", some "others"), propB K ("Bound", some "second"), propB K ("Bound", some "cost"), PySem.W.fnIn K (He.ma K (He.ga K "Shelf") "__getitem__"), tabsNd (tbs K)]
def exB (K : PySem.W.Frag) : Bool := (isB K (ga K) nC subC && true) && (exL K).all id
def names0 : List PySem.Str := ["BoundError", "BadBound", "BadShelf", "BadName", "LETTERS", "MAX_NAME", "MAX_PACKAGES", "MAX_VERSION", "MAX_REQUESTS", "MAX_BOUNDS", "MAX_COST", "is_integer", "is_name", "are_versions", "Bound", "are_packages", "is_item", "are_others", "are_needs", "is_break", "is_request", "is_bound_of", "Shelf", "needed", "_law_cell_at", "_law_draw", "_law_number", "_law_next", "_law_pick", "_law_some"]
def names1 : List PySem.Str := ["_law_item", "_law_two", "_law_drawn", "_law_shelf", "_law_one_right", "_law_equal_right"]
def names : List PySem.Str := names0 ++ names1
abbrev RR : PySem.W.OpenRow := PySem.W.OpenLaw.row PySem.Challenge.rw_fewbounds_k31_whole_shelves
def asLit : List Addr := [2,3,6,4,24,37,58,70,79,84,89,161,170,177,182,187,192,197,202,288,299,306,313,320,327,334,339,346,353,358,365,372,377,384,0,23,36,57,69,78,83,88,160,169,176,181,186,191,196,201,287,298,305,312,319,326,333,338,345,352,357,364,371,376,383,22,25,35,55,56,68,73,74,75,76,77,80,81,82,85,86,87,104,111,118,126,134,142,150,158,159,162,163,166,167,168,171,172,173,174,175,178,179,180,183,184,185,188,189,190,193,194,195,198,199,200,214,221,228,235,242,249,256,262,270,278,285,286,289,290,293,294,295,296,297,300,301,302,303,304,307,308,309,310,311,314,315,316,317,318,321,322,323,324,325,328,329,330,331,332,335,336,337,340,341,342,343,344,347,348,349,350,351,354,355,356,359,360,361,362,363,366,367,368,369,370,373,374,375,378,379,380,381,382,54,43,103,97,110,117,125,133,141,149,157,213,220,227,234,241,248,255,261,269,277,284,49,50,51,52,53,98,99,100,101,102,105,106,107,108,109,112,113,114,115,116,124,132,140,148,156,210,211,212,215,216,217,218,219,222,223,224,225,226,229,230,231,232,233,236,237,238,239,240,243,244,245,246,247,250,251,252,253,254,260,268,276,279,280,281,282,283]
abbrev hk : PySem.W.Hook := hookXL asLit faL fnL fpL tfL exB
def ob (s : PySem.W.SharedT) : (He.AlD × He.AlD) × Bool := obsXL asLit faL fnL fpL tfL exB (HandSHeadRun.getT s)
theorem ob_eq (s : PySem.W.SharedT) : ob s = hk.obs s.abs := obsXL_eq (HandSHeadRun.getT_eq s)
abbrev vw : Program := PySem.W.view RR.prog [39]
def Kof (s : PySem.W.SharedT) : PySem.W.Frag := He.frT (HandSHeadRun.getT s) asLit
def fnA : List He.DefD := fnL.take 7
def fnB : List He.DefD := (fnL.drop 7).take 18
def fnC : List He.DefD := (fnL.drop 7).drop 18
def faA : List He.Fa := faL.take 39
def faB : List He.Fa := faL.drop 39
def fnD : List He.DefD := fnL.take 20
def fnE : List He.DefD := fnL.drop 20
def okA (s : PySem.W.SharedT) := (faA.all fun f => f.ok (Kof s), obsP fpL (Kof s))
def okB (s : PySem.W.SharedT) := (faB.all fun f => f.ok (Kof s), fnA.all fun d => d.ok (Kof s))
def okC (s : PySem.W.SharedT) := fnB.all fun d => d.ok (Kof s)
def okD (s : PySem.W.SharedT) := (fnC.all fun d => d.ok (Kof s), fnD.map fun d => He.fnW (Kof s) d.at_)
def okE (s : PySem.W.SharedT) := (fnE.map fun d => He.fnW (Kof s) d.at_, (ob s).2)
theorem all_cut {α : Type} (p : α -> Bool) (n : Nat) (l : List α) (h1 : (l.take n).all p = true) (h2 : (l.drop n).all p = true) : l.all p = true := by
  rw [<- List.take_append_drop n l, List.all_append, h1, h2]; rfl
theorem map_cut {α β : Type} (f g : α -> β) (n : Nat) (l : List α) (h1 : (l.take n).map f = (l.take n).map g) (h2 : (l.drop n).map f = (l.drop n).map g) : l.map f = l.map g := by
  rw [<- List.take_append_drop n l, List.map_append, List.map_append, h1, h2]
theorem map_ob {x : Option PySem.W.SharedT} (h1 : x.map okA = some (true, (true, fpL.map He.DefD.val))) (h2 : x.map okB = some (true, true)) (h3 : x.map okC = some true) (h4 : x.map okD = some (true, fnD.map He.DefD.val)) (h5 : x.map okE = some (fnE.map He.DefD.val, true)) : x.map ob = some ((He.valD fnL, (true, fpL.map He.DefD.val)), true) := by
  cases x with
  | none => cases h1
  | some s =>
    have e1 : okA s = (true, (true, fpL.map He.DefD.val)) := Option.some.inj h1
    have e2 : okB s = (true, true) := Option.some.inj h2
    have e3 : okC s = true := Option.some.inj h3
    have e4 : okD s = (true, fnD.map He.DefD.val) := Option.some.inj h4
    have e5 : okE s = (fnE.map He.DefD.val, true) := Option.some.inj h5
    obtain ⟨a1, a2⟩ := Prod.mk.inj e1
    obtain ⟨b1, b2⟩ := Prod.mk.inj e2
    obtain ⟨d1, d2⟩ := Prod.mk.inj e4
    obtain ⟨f1, f2⟩ := Prod.mk.inj e5
    have q1 : (faL.all fun f => f.ok (Kof s)) = true := all_cut _ 39 faL a1 b1
    have q2 : (fnL.all fun d => d.ok (Kof s)) = true := all_cut _ 7 fnL b2 (all_cut _ 18 _ e3 d1)
    have q3 : (fnL.map fun d => He.fnW (Kof s) d.at_) = fnL.map He.DefD.val := map_cut _ _ 20 fnL d2 f1
    have q4 : (ob s).1.1 = He.valD fnL := by
      show (((faL.all fun f => f.ok (Kof s)) && fnL.all fun d => d.ok (Kof s)), fnL.map fun d => He.fnW (Kof s) d.at_) = _
      rw [q1, q2, q3]
      rfl
    have q5 : (ob s).1.2 = (true, fpL.map He.DefD.val) := a2
    show some (((ob s).1.1, (ob s).1.2), (ob s).2) = _
    rw [q4, q5, f2]
section
open PySem.W PySem.Calls HandSHeadRun
theorem runEq_of {r : OpenRow} {q : Program} {H : Hook} {ob : SharedT -> H.α} {M : Nat} {loose : List PySem.Str} {w : World}
    (h1 : ∀ os : OsState, (endF (stepQ (denQ tabQ) r.prog w) M r.prog w os).map (fun s => looksF r.prog (boot_heap w.params) s.abs) = some true)
    (h0 : ∀ os : OsState, (endF (stepQ (denQ tabQ) r.prog w) M r.prog w os).map (fun s => seenQ q loose (importedModules r.prog.main.body) (fun s => xlAt q [] s && recOk r.toRowW.records s) s.abs) = some (openGood q loose))
    (h2 : ∀ os : OsState, (endF (stepQ (denQ tabQ) r.prog w) M r.prog w os).map ob = some (H.val w)) : RunEq r q H ob M loose w := by
  intro os
  have k1 := h1 os
  have k2 := h2 os
  have k0 := h0 os
  revert k1 k2 k0
  generalize endF (stepQ (denQ tabQ) r.prog w) M r.prog w os = x
  intro k1 k2 k0
  cases x with
  | none => cases k1
  | some s =>
    have e1 := Option.some.inj k1
    have e2 := Option.some.inj k2
    show some (_, _, ob s) = _
    have e0 : HandSHeadRun.seenQ q loose (importedModules r.prog.main.body) (fun s => xlAt q [] s && recOk r.toRowW.records s) s.abs = openGood q loose := Option.some.inj k0
    rw [e2, show looksF r.prog (boot_heap w.params) s.abs = true from e1, e0]
end
section
open PySem.W PySem.Calls HandSHeadRun
theorem run1 (w : World) (os : OsState) : (endF (stepQ (denQ tabQ) RR.prog w) 20000 RR.prog w os).map (fun s => looksF RR.prog (boot_heap w.params) s.abs) = some true := by kernel_rfl
theorem run2 (w : World) (os : OsState) : (endF (stepQ (denQ tabQ) RR.prog w) 20000 RR.prog w os).map (fun s => seenQ vw names (importedModules RR.prog.main.body) (fun s => xlAt vw [] s && recOk RR.toRowW.records s) s.abs) = some (openGood vw names) := by kernel_rfl
theorem runA (w : World) (os : OsState) : (endF (stepQ (denQ tabQ) RR.prog w) 20000 RR.prog w os).map okA = some (true, (true, fpL.map He.DefD.val)) := by kernel_rfl
theorem runB (w : World) (os : OsState) : (endF (stepQ (denQ tabQ) RR.prog w) 20000 RR.prog w os).map okB = some (true, true) := by kernel_rfl
theorem runC (w : World) (os : OsState) : (endF (stepQ (denQ tabQ) RR.prog w) 20000 RR.prog w os).map okC = some true := by kernel_rfl
theorem runD (w : World) (os : OsState) : (endF (stepQ (denQ tabQ) RR.prog w) 20000 RR.prog w os).map okD = some (true, fnD.map He.DefD.val) := by kernel_rfl
theorem runE (w : World) (os : OsState) : (endF (stepQ (denQ tabQ) RR.prog w) 20000 RR.prog w os).map okE = some (fnE.map He.DefD.val, true) := by kernel_rfl
end
section
open PySem.W PySem.Calls HandSHeadRun
theorem hd_e : opening RR.prog = plainProg RR.prog.main.scope.names := by kernel_rfl
theorem hd_f : ∀ s, fenceModules? RR.prog s = some s := fun s => by kernel_rfl
theorem hd_def : defOf vw RR.name = some (topDef RR.prog 39, []) := by kernel_rfl
theorem hd_p : RR.prog.theDef RR.name = some ((topDef RR.prog 39).params, (topDef RR.prog 39).body, (topDef RR.prog 39).scope) := by kernel_rfl
theorem hd_k : kwWritten? (topDef RR.prog 39).params.kwonlyargs (topDef RR.prog 39).params.kw_defaults = some [] := by kernel_rfl
theorem hd_wr : (!RR.writes || RR.records.isEmpty) = true := by rfl
theorem hd_ok : (chainsOk vw && opensWell RR.prog && (frees RR.toRowW && RR.within.isEmpty)) = true := by decide +kernel
theorem hd_b : RR.prog.bare := ⟨rfl, rfl, rfl, rfl, rfl, by decide +kernel⟩
theorem hd_w : RR.toRowW.promised := by w_witness2
end
theorem run (w : World) : HandSHeadRun.RunEq RR vw hk ob 20000 names w := runEq_of (r := RR) (q := vw) (H := hk) (ob := ob) (M := 20000) (loose := names) (w := w) (run1 w) (run2 w) fun os => map_ob (runA w os) (runB w os) (runC w os) (runD w os) (runE w os)
theorem head0 (call : PySem.W.WalkO vw names (PySem.W.XL vw []) hk.says RR.toRowW (HandSHeadRun.topDef RR.prog 39) [] fun f vs => PySem.call f vs) : PySem.Challenge.rw_fewbounds_k31_whole_shelves.Holds := by
  w_on; o_law
  exact HandSHeadRun.head_any (r := RR) (q := vw) (H := hk) (ob := ob) (M := 20000) (loose := names) (d := HandSHeadRun.topDef RR.prog 39) (kwd := []) ob_eq hd_e hd_f run hd_def hd_p hd_k hd_wr (by assumption) hd_ok hd_b hd_w call
end K31
end
section
namespace Mi
open PySem PySem.Spec PyProof.Rows L2
theorem passLN {X : Cx} : Passes (L2N.CX X.prog X.w) X (fun _ _ _ => False) := fun pins σ H s e s' I ⟨_, _, _, _, _, _, _, _, _, _, _, _, z⟩ => z.elim
inductive W where
  | non | bl (b : Bool) | int (i : Int) | str (s : Str)
  | tup (ws : List W) | lst (ws : List W) | dct (ks vs : List W) | ins (c : Nat) (fn : List Str) (fv : List W)
  | ref (n : Nat)
  | dvs (ks vs : List W)
  | ty (n : Nat)
  | cl (c : Nat)
  | scr (ns : List Int)
  | kt0
  | lamO (k : Nat)
  | lam (k : Nat) (cs : List W)
  | exn (fn : List Str) (fv : List W)
inductive O where
  | lst (ws : List W) | dct (ks vs : List W) | ins (c : Nat) (fn : List Str) (fv : List W)
structure MH where
  nx : Nat
  l : List (Nat × O)
def lookN (n : Nat) : List (Nat × O) -> Option O
  | [] => none
  | (m, o) :: r => match Nat.beq n m with
    | true => some o
    | false => lookN n r
def MH.get (h : MH) (n : Nat) : Option O := lookN n h.l
def setN (n : Nat) (o : O) : List (Nat × O) -> List (Nat × O)
  | [] => []
  | (m, u) :: r => match Nat.beq n m with
    | true => (m, o) :: r
    | false => (m, u) :: setN n o r
def MH.set (h : MH) (n : Nat) (o : O) : MH := ⟨h.nx, setN n o h.l⟩
def delN (n : Nat) : List (Nat × O) -> List (Nat × O)
  | [] => []
  | (m, u) :: r => match Nat.beq n m with
    | true => delN n r
    | false => (m, u) :: delN n r
def MH.del (h : MH) (n : Nat) : MH := ⟨h.nx, delN n h.l⟩
def MH.new (h : MH) (o : O) : MH := ⟨h.nx + 1, (h.nx, o) :: h.l⟩
theorem lookN_set_same {n : Nat} {o u : O} : ∀ {l : List (Nat × O)}, lookN n l = some u -> lookN n (setN n o l) = some o
  | (m, x) :: r, e => by
    unfold lookN at e
    unfold setN
    cases q : Nat.beq n m with
    | true => simp only [lookN, q]
    | false =>
      rw [q] at e
      simp only [lookN, q]
      exact lookN_set_same e
theorem lookN_set_other {n k : Nat} {o : O} (h : k ≠ n) : ∀ {l : List (Nat × O)}, lookN k (setN n o l) = lookN k l
  | [] => rfl
  | (m, x) :: r => by
    unfold setN
    cases q : Nat.beq n m with
    | true =>
      have e : n = m := Nat.eq_of_beq_eq_true q
      have e2 : Nat.beq k m = false := by
        cases z : Nat.beq k m with
        | false => rfl
        | true => exact absurd ((Nat.eq_of_beq_eq_true z).trans e.symm) h
      simp only [lookN, e2]
    | false =>
      simp only [lookN]
      cases Nat.beq k m with
      | true => rfl
      | false => exact lookN_set_other h
theorem lookN_del_same {n : Nat} : ∀ {l : List (Nat × O)}, lookN n (delN n l) = none
  | [] => rfl
  | (m, x) :: r => by
    unfold delN
    cases q : Nat.beq n m with
    | true => exact lookN_del_same
    | false => simp only [lookN, q]; exact lookN_del_same
theorem lookN_del_other {n k : Nat} (h : k ≠ n) : ∀ {l : List (Nat × O)}, lookN k (delN n l) = lookN k l
  | [] => rfl
  | (m, x) :: r => by
    unfold delN
    cases q : Nat.beq n m with
    | true =>
      have e : n = m := Nat.eq_of_beq_eq_true q
      have e2 : Nat.beq k m = false := by
        cases z : Nat.beq k m with
        | false => rfl
        | true => exact absurd ((Nat.eq_of_beq_eq_true z).trans e.symm) h
      simp only [lookN, e2]
      exact lookN_del_other h
    | false =>
      simp only [lookN]
      cases Nat.beq k m with
      | true => rfl
      | false => exact lookN_del_other h
structure Xc where
  c : Nat
  fs : Option (List Str × List W)
inductive R (α : Type) where
  | ok (a : α) (h : MH)
  | exc (x : Xc) (h : MH)
  | stuck
structure Ld where
  q : Str
  params : Arguments
  body : Expr
  scope : Scope
  fr : List Str
structure Ad where
  at_ : Nat -> Addr
  lm : Nat -> Ld
  en : List (Str × Addr)
  cv : Addr -> Option V
  tb : List (Addr × Str)
instance : CoeFun Ad fun _ => Nat -> Addr := ⟨Ad.at_⟩
instance : Coe Ad (Nat -> Addr) := ⟨Ad.at_⟩
abbrev Ad.bare (a : Ad) : Ad := { a with tb := [] }
structure Kt where
  P : Program
  w : World
  K : PySem.W.Frag
  adr : Ad
structure Tie where
  ρ : Nat -> Option Addr
  nx : Nat
  hid : List Addr
  nm : Addr -> Str
structure Fz (T : Tie) (a : Addr) : Prop where
  own : ∀ n, T.ρ n ≠ some a
  hid : a ∉ T.hid
def exact (o : Obj) (a : Addr) : HO := .ext fun h => h.get? a = some o
def valsO (d : Addr) : Obj := { cls := .type "dict_values", data := .fields #[.ref d] }
inductive Ents : List DictEntry -> List V -> List V -> List Int -> Prop
  | nil : Ents [] [] [] []
  | cons {e : DictEntry} {es k ks v vs i is} : RelV k e.key -> RelV v e.val -> e.hash = i -> Ents es ks vs is -> Ents (e :: es) (k :: ks) (v :: vs) (i :: is)
def DictO (o : Obj) (kv vv : List V) (hs : List Int) : Prop := o.ExactDict /\ ∃ es ep, o.data = .dict es ep /\ Ents es.toList kv vv hs
mutual
def nkW : W -> Option NestedKey
  | .non => some NestedKey.none
  | .bl b => some (.num (if b then 1 else 0))
  | .int i => some (.num i)
  | .str s => some (.text s)
  | .tup ws => (nkWs ws).map NestedKey.tup
  | _ => none
def nkWs : List W -> Option (List NestedKey)
  | [] => some []
  | x :: r => match nkW x, nkWs r with
    | some a, some b => some (a :: b)
    | _, _ => none
end
def kS : W -> Option Key
  | .int i => some (.inl i)
  | .str s => some (.inr s)
  | _ => none
def kT : W -> Option NestedKey
  | .tup ws => match nkWs ws with
    | some ks => match Nat.ble (NestedKey.tup ks).depth 8 with
      | true => some (.tup ks)
      | false => none
    | none => none
  | _ => none
def KeysOk (ks : List W) : Prop := ks.length <= sizeLine /\ ((∃ kl : List Key, ks.map kS = kl.map some /\ kl.Nodup) \/ ∃ kl : List NestedKey, ks.map kT = kl.map some /\ kl.Nodup)
def hashW (w : World) (x : W) : Int := match x with
  | .int i => hashInt i
  | .str s => hashStr w s
  | x => match nkW x with
    | some k => k.hash w
    | none => 0
def SqK (K : PySem.W.Frag) (a : Addr) (xs : List V) : Prop := ∃ (o : Obj) (its : Array Value) (n : Nat), K.lookup a = some o /\ o.cls = .type "list" /\ o.dict = none /\ o.data = .seq its n /\ its.size <= sizeLine /\ Vals xs its.toList
def LamO (d : Ld) (en : List (Str × Addr)) (pm ctv : Value) (c : Addr) : Obj := PySem.W.kla_obj "<lambda>" d.q d.params d.body d.scope (cloFrom en d.scope.names []) pm c ctv
def CvIs (ad : Ad) (d : Ld) (vs : List V) : Prop := vs.length = d.fr.length /\ (∀ (i : Nat) (y : Str) (v : V), d.fr[i]? = some y -> vs[i]? = some v -> ∃ c, (cloFrom ad.en d.scope.names []).lookup y = some c /\ ad.cv c = some v) /\
  (∀ y c, (cloFrom ad.en d.scope.names []).lookup y = some c -> ∃ v, ad.cv c = some v) /\ ∀ x y c, (cloFrom ad.en d.scope.names []).lookup x = some c -> (cloFrom ad.en d.scope.names []).lookup y = some c -> x = y
def K0 (K : PySem.W.Frag) (a : Addr) : Prop := ∃ (o : Obj) (n : Nat), K.lookup a = some o /\ o.cls = .type "tuple" /\ o.data = .seq #[] n
variable (G : Kt)
mutual
def Rep (T : Tie) (H : Hp) : W -> V -> Prop
  | .non, v => v = .non
  | .bl b, v => v = .bl b
  | .int i, v => v = .int i
  | .str s, v => v = .str s
  | .tup ws, v => ∃ a vs, v = .ref a /\ Fz T a /\ H a = some (.tup vs) /\ Reps T H ws vs
  | .lst ws, v => ∃ a vs, v = .ref a /\ Fz T a /\ H a = some (.lst vs) /\ Reps T H ws vs
  | .dct ks vs, v => ∃ a o kv vv, v = .ref a /\ Fz T a /\ (a == sysModules) = false /\ KeysOk ks /\ H a = some (exact o a) /\ DictO o kv vv (ks.map (hashW G.w)) /\ Reps T H ks kv /\ Reps T H vs vv
  | .ins c fn fv, v => ∃ a dx vv, v = .ref a /\ Fz T a /\ Fz T dx /\ H a = some (.ins (G.adr c) dx (fn.zip vv)) /\ H dx = some (.own a) /\ fn.length = vv.length /\ Reps T H fv vv
  | .ref n, v => n < T.nx /\ ∀ a, T.ρ n = some a -> v = .ref a
  | .ty n, v => v = .ty (tyName n)
  | .cl c, v => v = .ref (G.adr c)
  | .scr ns, v => ∃ a, v = .ref a /\ ((Fz T a /\ Rd H a (.lst (ns.map V.int))) \/ SqK G.K a (ns.map V.int))
  | .kt0, v => ∃ a, v = .ref a /\ K0 G.K a
  | .lamO k, v => ∃ f c pm ctv, v = .ref f /\ Fz T f /\ H f = some (exact (LamO (G.adr.lm k) G.adr.en pm ctv c) f) /\ Fz T c /\ H c = some (LamX.CodeO c (G.adr.lm k).q)
  | .lam k cs, v => ∃ f c pm ctv vs, v = .ref f /\ Fz T f /\ H f = some (exact (LamO (G.adr.lm k) G.adr.en pm ctv c) f) /\ Fz T c /\ H c = some (LamX.CodeO c (G.adr.lm k).q) /\ CvIs G.adr (G.adr.lm k) vs /\ Reps T H cs vs
  | .exn fn fv, v => ∃ vv, v = .ref (G.adr 1000) /\ Fz T (G.adr 1001) /\ H (G.adr 1001) = some (.xd (fn.zip vv)) /\ fn.length = vv.length /\ Reps T H fv vv
  | .dvs ks vs, v => ∃ b a o kv vv, v = .ref b /\ Fz T b /\ H b = some (exact (valsO a) b) /\ Fz T a /\ (a == sysModules) = false /\ KeysOk ks /\ H a = some (exact o a) /\ DictO o kv vv (ks.map (hashW G.w)) /\ Reps T H ks kv /\ Reps T H vs vv
def Reps (T : Tie) (H : Hp) : List W -> List V -> Prop
  | [], vs => vs = []
  | x :: r, vs => ∃ v s, vs = v :: s /\ Rep T H x v /\ Reps T H r s
end
def RepO (T : Tie) (H : Hp) : O -> Addr -> Prop
  | .lst ws, a => ∃ vs, H a = some (.lst vs) /\ Reps G T H ws vs
  | .dct ks vs, a => ∃ o kv vv, (a == sysModules) = false /\ KeysOk ks /\ H a = some (exact o a) /\ DictO o kv vv (ks.map (hashW G.w)) /\ Reps G T H ks kv /\ Reps G T H vs vv
  | .ins c fn fv, a => ∃ dx vv, Fz T dx /\ H a = some (.ins (G.adr c) dx (fn.zip vv)) /\ H dx = some (.own a) /\ fn.length = vv.length /\ Reps G T H fv vv
structure Tie.Ok (T : Tie) (H : Hp) : Prop where
  lt : ∀ m a, T.ρ m = some a -> m < T.nx
  inj : ∀ m n a, T.ρ m = some a -> T.ρ n = some a -> m = n
  there : ∀ n a, T.ρ n = some a -> H a ≠ none
  hid : ∀ n a, T.ρ n = some a -> a ∉ T.hid
  hidT : ∀ a, a ∈ T.hid -> H a ≠ none
theorem exact_ne_code {o : Obj} {a : Addr} {kv vv : List V} {hs : List Int} (d : DictO o kv vv hs) (q : Str) : exact o a ≠ LamX.CodeO a q := fun z => by
  obtain ⟨_, es, ep, d, _⟩ := d
  let oc : Obj := { cls := .none, data := .fields #[.none, .str q 0] }
  let hp : Heap := { objs := Array.replicate (a + 1) oc }
  have g : hp.get? a = some oc := by simp [Heap.get?, hp, oc]
  have e : (hp.get? a = some o) = ∃ (oc : Obj) (vs : Array Value) (t : Tok), hp.get? a = some oc /\ oc.data = .fields vs /\ vs[1]? = some (.str q t) := congrFun (HO.ext.inj z) hp
  have w : hp.get? a = some o := e.mpr ⟨oc, _, 0, g, rfl, rfl⟩
  rw [<- Option.some.inj (g.symm.trans w)] at d
  cases d
theorem exact_ne_tbl {o : Obj} {a : Addr} (ps : Array Value) : exact o a ≠ .tbl ps := fun z => by cases z
def TabT (T : Tie) (H : Hp) (P : Addr) (q : Str) : Prop := P ∈ T.hid /\ T.nm P = q /\ ∃ ps : Array Value, H P = some (.tbl ps) /\ TriplesOk ps.toList /\ ∀ (pos : Pos) (cv : Value), codeAmong pos ps.toList = some cv -> ∃ c, cv = .ref c /\ Fz T c /\ H c = some (LamX.CodeO c q)
theorem TabT.to {T T' : Tie} {H H' : Hp} {P : Addr} {q : Str} (t : TabT T H P q) (hp : P ∈ T.hid -> P ∈ T'.hid) (e : ∀ ps, P ∈ T.hid -> H P = some (.tbl ps) -> H' P = some (.tbl ps)) (k : ∀ c, Fz T c -> H c = some (LamX.CodeO c q) -> Fz T' c /\ H' c = some (LamX.CodeO c q)) (nm : T'.nm = T.nm := by rfl) : TabT T' H' P q := by
  obtain ⟨h1, hn, ps, h2, h3, h4⟩ := t
  refine ⟨hp h1, (congrFun nm P).trans hn, ps, e ps h1 h2, h3, fun pos cv hc => ?_⟩
  obtain ⟨c, e1, e2, e3⟩ := h4 pos cv hc
  exact ⟨c, e1, k c e2 e3⟩
structure Ex (T T' : Tie) (H H' : Hp) : Prop where
  nx : T.nx <= T'.nx
  old : ∀ m, m < T.nx -> T'.ρ m = T.ρ m \/ T'.ρ m = none
  new : ∀ m a, T.nx <= m -> T'.ρ m = some a -> H a = none
  fz : ∀ a o, H a = some o -> Fz T a -> H' a = some o
  there : ∀ a, H a ≠ none -> H' a ≠ none
  hid : ∀ a, a ∈ T.hid -> a ∈ T'.hid
  hidN : ∀ a, a ∈ T'.hid -> a ∈ T.hid \/ H a = none
  hidS : ∀ a, a ∈ T.hid -> (∀ ps, H a ≠ some (.tbl ps)) -> H' a = H a
  tb : ∀ P q, TabT T H P q -> TabT T' H' P q
theorem Ex.mk' {T T' : Tie} {H H' : Hp} (nx : T.nx <= T'.nx) (old : ∀ m, m < T.nx -> T'.ρ m = T.ρ m \/ T'.ρ m = none) (new : ∀ m a, T.nx <= m -> T'.ρ m = some a -> H a = none) (fz : ∀ a o, H a = some o -> Fz T a -> H' a = some o)
    (there : ∀ a, H a ≠ none -> H' a ≠ none) (hid : ∀ a, a ∈ T.hid -> a ∈ T'.hid) (hidN : ∀ a, a ∈ T'.hid -> a ∈ T.hid \/ H a = none) (hidS : ∀ a, a ∈ T.hid -> H' a = H a) (nm : T'.nm = T.nm := by rfl) : Ex T T' H H' :=
  ⟨nx, old, new, fz, there, hid, hidN, fun a h _ => hidS a h, fun P q t => by
    refine t.to (hid P) (fun ps hp e => (hidS P hp).trans e) (fun c n e => ⟨⟨fun m z => ?_, fun z => (hidN c z).elim n.hid (fun w => by rw [w] at e; cases e)⟩, fz c _ e n⟩) nm
    by_cases hm : m < T.nx
    · rcases old m hm with w | w
      · exact n.own m (w.symm.trans z)
      · rw [w] at z; cases z
    · have := new m c (by omega) z
      rw [this] at e; cases e⟩
theorem Ex.hidL {T T' : Tie} {H H' : Hp} (x : Ex T T' H H') {a : Addr} {o : HO} (h : a ∈ T.hid) (e : H a = some o) (n : ∀ ps, o ≠ .tbl ps) : H' a = some o := (x.hidS a h fun ps z => n ps (Option.some.inj (e.symm.trans z))).trans e
theorem Ex.rfl' {T : Tie} {H : Hp} (h : T.Ok H) : Ex T T H H :=
  ⟨Nat.le_refl _, fun _ _ => .inl rfl, fun m a hm e => absurd (h.lt m a e) (by omega), fun _ _ e _ => e, fun _ e => e, fun _ e => e, fun _ e => .inl e, fun _ _ _ => rfl, fun _ _ t => t⟩
theorem Ex.fzOf {T T' : Tie} {H H' : Hp} (x : Ex T T' H H') {a : Addr} (h : Fz T a) (t : H a ≠ none) : Fz T' a := ⟨fun m e => by
  by_cases hm : m < T.nx
  · rcases x.old m hm with q | q
    · rw [q] at e; exact h.own m e
    · rw [q] at e; cases e
  · exact t (x.new m a (by omega) e), fun hm => (x.hidN a hm).elim h.hid t⟩
theorem Ex.trans {T T1 T2 : Tie} {H H1 H2 : Hp} (x : Ex T T1 H H1) (y : Ex T1 T2 H1 H2) : Ex T T2 H H2 where
  nx := Nat.le_trans x.nx y.nx
  old := fun m hm => by
    rcases y.old m (Nat.lt_of_lt_of_le hm x.nx) with q | q
    · rw [q]; exact x.old m hm
    · exact .inr q
  new := fun m a hm e => by
    by_cases h1 : m < T1.nx
    · rcases y.old m h1 with q | q
      · exact x.new m a hm (by rw [<- q]; exact e)
      · rw [q] at e; cases e
    · have z := y.new m a (by omega) e
      cases q : H a with
      | none => rfl
      | some o => exact absurd z (x.there a (by rw [q]; simp))
  fz := fun a o e f => y.fz a o (x.fz a o e f) (x.fzOf f (by rw [e]; simp))
  there := fun a h => y.there a (x.there a h)
  hid := fun a h => y.hid a (x.hid a h)
  hidN := fun a h => by
    rcases y.hidN a h with q | q
    · exact x.hidN a q
    · refine .inr ?_
      cases e : H a with
      | none => rfl
      | some o => exact absurd q (x.there a (by rw [e]; simp))
  hidS := fun a h n => (y.hidS a (x.hid a h) fun ps => by rw [x.hidS a h n]; exact n ps).trans (x.hidS a h n)
  tb := fun P q t => y.tb P q (x.tb P q t)
section
variable {G} {T T' : Tie} {H H' : Hp}
mutual
theorem rep_ex (x : Ex T T' H H')  : ∀ (w : W) (v : V), Rep G T H w v -> Rep G T' H' w v
  | .non, v, h => h
  | .bl _, v, h => h
  | .int _, v, h => h
  | .str _, v, h => h
  | .tup ws, v, h => by
    unfold Rep at h ⊢
    obtain ⟨a, vs, e, f, q, r⟩ := h
    exact ⟨a, vs, e, x.fzOf f (by rw [q]; simp), x.fz _ _ q f, reps_ex x ws vs r⟩
  | .lst ws, v, h => by
    unfold Rep at h ⊢
    obtain ⟨a, vs, e, f, q, r⟩ := h
    exact ⟨a, vs, e, x.fzOf f (by rw [q]; simp), x.fz _ _ q f, reps_ex x ws vs r⟩
  | .dct ks vs, v, h => by
    unfold Rep at h ⊢
    obtain ⟨a, o, kv, vv, e, f, sm, ko, q, d, r1, r2⟩ := h
    exact ⟨a, o, kv, vv, e, x.fzOf f (by rw [q]; simp), sm, ko, x.fz a _ q f, d, reps_ex x ks kv r1, reps_ex x vs vv r2⟩
  | .ins c fn fv, v, h => by
    unfold Rep at h ⊢
    obtain ⟨a, dx, vv, e, f, f2, q, q2, l, r⟩ := h
    exact ⟨a, dx, vv, e, x.fzOf f (by rw [q]; simp), x.fzOf f2 (by rw [q2]; simp), x.fz a _ q f, x.fz dx _ q2 f2, l, reps_ex x fv vv r⟩
  | .ref n, v, h => by
    unfold Rep at h ⊢
    refine ⟨Nat.lt_of_lt_of_le h.1 x.nx, fun a e => ?_⟩
    rcases x.old n h.1 with q | q
    · exact h.2 a (by rw [<- q]; exact e)
    · rw [q] at e; cases e
  | .ty _, v, h => by unfold Rep at h ⊢; exact h
  | .cl _, v, h => by unfold Rep at h ⊢; exact h
  | .kt0, v, h => by unfold Rep at h ⊢; exact h
  | .lamO k, v, h => by
    unfold Rep at h ⊢
    obtain ⟨f, c, pm, ctv, e, ff, q, fc, qc⟩ := h
    exact ⟨f, c, pm, ctv, e, x.fzOf ff (by rw [q]; simp), x.fz f _ q ff, x.fzOf fc (by rw [qc]; simp), x.fz c _ qc fc⟩
  | .lam k cs, v, h => by
    unfold Rep at h ⊢
    obtain ⟨f, c, pm, ctv, vs, e, ff, q, fc, qc, cv, r⟩ := h
    exact ⟨f, c, pm, ctv, vs, e, x.fzOf ff (by rw [q]; simp), x.fz f _ q ff, x.fzOf fc (by rw [qc]; simp), x.fz c _ qc fc, cv, reps_ex x cs vs r⟩
  | .exn fn fv, v, h => by
    unfold Rep at h ⊢
    obtain ⟨vv, e, f, q, l, r⟩ := h
    exact ⟨vv, e, x.fzOf f (by rw [q]; simp), x.fz _ _ q f, l, reps_ex x fv vv r⟩
  | .scr ns, v, h => by
    unfold Rep at h ⊢
    obtain ⟨a, e, q⟩ := h
    refine ⟨a, e, q.imp (fun q => ?_) id⟩
    obtain ⟨f, r⟩ := q
    rcases r with r | ⟨o, r⟩
    · exact ⟨x.fzOf f (by rw [r]; simp), .inl (x.fz _ _ r f)⟩
    · exact ⟨x.fzOf f (by rw [r]; simp), .inr ⟨o, x.fz _ _ r f⟩⟩
  | .dvs ks vs, v, h => by
    unfold Rep at h ⊢
    obtain ⟨b, a, o, kv, vv, e, fb, qb, f, sm, ko, q, d, r1, r2⟩ := h
    exact ⟨b, a, o, kv, vv, e, x.fzOf fb (by rw [qb]; simp), x.fz b _ qb fb, x.fzOf f (by rw [q]; simp), sm, ko, x.fz a _ q f, d, reps_ex x ks kv r1, reps_ex x vs vv r2⟩
theorem reps_ex (x : Ex T T' H H')  : ∀ (w : List W) (v : List V), Reps G T H w v -> Reps G T' H' w v
  | [], v, h => h
  | y :: r, v, h => by
    unfold Reps at h ⊢
    obtain ⟨u, s, e, h1, h2⟩ := h
    exact ⟨u, s, e, rep_ex x y u h1, reps_ex x r s h2⟩
end
theorem Reps.length : ∀ {ws : List W} {vs : List V}, Reps G T H ws vs -> ws.length = vs.length
  | [], vs, h => by unfold Reps at h; rw [h]; rfl
  | _ :: r, vs, h => by
    unfold Reps at h
    obtain ⟨u, s, e, _, h2⟩ := h
    rw [e, List.length_cons, List.length_cons, Reps.length h2]
theorem Reps.nil : Reps G T H [] [] := by unfold Reps; rfl
theorem Reps.cons {w : W} {ws : List W} {v : V} {vs : List V} (h : Rep G T H w v) (t : Reps G T H ws vs) : Reps G T H (w :: ws) (v :: vs) := by
  unfold Reps; exact ⟨v, vs, rfl, h, t⟩
theorem Reps.get : ∀ {ws : List W} {vs : List V} {i : Nat} {w : W}, Reps G T H ws vs -> ws[i]? = some w -> ∃ v, vs[i]? = some v /\ Rep G T H w v
  | [], _, i, w, _, e => by simp at e
  | y :: r, vs, 0, w, h, e => by
    unfold Reps at h
    obtain ⟨u, s, rfl, h1, _⟩ := h
    simp at e; subst e
    exact ⟨u, rfl, h1⟩
  | y :: r, vs, i + 1, w, h, e => by
    unfold Reps at h
    obtain ⟨u, s, rfl, _, h2⟩ := h
    obtain ⟨v, e2, q⟩ := Reps.get (i := i) h2 (by simpa using e)
    exact ⟨v, by simpa using e2, q⟩
theorem Reps.append : ∀ {ws ws' : List W} {vs vs' : List V}, Reps G T H ws vs -> Reps G T H ws' vs' -> Reps G T H (ws ++ ws') (vs ++ vs')
  | [], ws', vs, vs', h, t => by unfold Reps at h; subst h; exact t
  | y :: r, ws', vs, vs', h, t => by
    unfold Reps at h
    obtain ⟨u, s, rfl, h1, h2⟩ := h
    exact Reps.cons h1 (Reps.append h2 t)
theorem Reps.take (n : Nat) : ∀ {ws : List W} {vs : List V}, Reps G T H ws vs -> Reps G T H (ws.take n) (vs.take n) := by
  induction n with
  | zero => intro ws vs _; simpa using Reps.nil
  | succ n ih =>
    intro ws vs h
    cases ws with
    | nil => unfold Reps at h; subst h; simpa using Reps.nil
    | cons y r =>
      unfold Reps at h
      obtain ⟨u, s, rfl, h1, h2⟩ := h
      exact Reps.cons h1 (ih h2)
theorem Reps.drop (n : Nat) : ∀ {ws : List W} {vs : List V}, Reps G T H ws vs -> Reps G T H (ws.drop n) (vs.drop n) := by
  induction n with
  | zero => intro ws vs h; exact h
  | succ n ih =>
    intro ws vs h
    cases ws with
    | nil => unfold Reps at h; subst h; simpa using Reps.nil
    | cons y r =>
      unfold Reps at h
      obtain ⟨u, s, rfl, h1, h2⟩ := h
      exact ih h2
end
mutual
def noLam : W -> Bool
  | .non => true
  | .bl _ => true
  | .int _ => true
  | .str _ => true
  | .tup ws => noLams ws
  | .lst ws => noLams ws
  | .dct ks vs => noLams ks && noLams vs
  | .ins _ _ fv => noLams fv
  | .ref _ => true
  | .dvs ks vs => noLams ks && noLams vs
  | .ty _ => true
  | .cl _ => true
  | .scr _ => true
  | .kt0 => true
  | .lamO _ => false
  | .lam _ _ => false
  | .exn _ fv => noLams fv
def noLams : List W -> Bool
  | [] => true
  | x :: r => noLam x && noLams r
end
structure Sim (G G' : Kt) : Prop where
  w : G'.w = G.w
  K : G'.K = G.K
  at_ : G'.adr.at_ = G.adr.at_
abbrev SimL (G G' : Kt) : Prop := G'.adr.lm = G.adr.lm /\ G'.adr.en = G.adr.en /\ G'.adr.cv = G.adr.cv
section
variable {G G' : Kt} {T : Tie} {H : Hp}
mutual
theorem rep_sim (g : Sim G G') : ∀ (w : W) (v : V), SimL G G' \/ noLam w = true -> Rep G T H w v -> Rep G' T H w v
  | .non, v, _, h => h
  | .bl _, v, _, h => h
  | .int _, v, _, h => h
  | .str _, v, _, h => h
  | .tup ws, v, l, h => by
    unfold Rep at h ⊢
    unfold noLam at l
    obtain ⟨a, vs, e, f, q, r⟩ := h
    exact ⟨a, vs, e, f, q, reps_sim g ws vs l r⟩
  | .lst ws, v, l, h => by
    unfold Rep at h ⊢
    unfold noLam at l
    obtain ⟨a, vs, e, f, q, r⟩ := h
    exact ⟨a, vs, e, f, q, reps_sim g ws vs l r⟩
  | .dct ks vs, v, l, h => by
    unfold Rep at h ⊢
    unfold noLam at l
    have l1 : SimL G G' \/ noLams ks = true := l.imp id fun z => (Bool.and_eq_true_iff.mp z).1
    have l2 : SimL G G' \/ noLams vs = true := l.imp id fun z => (Bool.and_eq_true_iff.mp z).2
    rw [g.w]
    obtain ⟨a, o, kv, vv, e, f, sm, ko, q, d, r1, r2⟩ := h
    exact ⟨a, o, kv, vv, e, f, sm, ko, q, d, reps_sim g ks kv l1 r1, reps_sim g vs vv l2 r2⟩
  | .ins c fn fv, v, l, h => by
    unfold Rep at h ⊢
    unfold noLam at l
    rw [g.at_]
    obtain ⟨a, dx, vv, e, f, f2, q, q2, l', r⟩ := h
    exact ⟨a, dx, vv, e, f, f2, q, q2, l', reps_sim g fv vv l r⟩
  | .ref n, v, _, h => by unfold Rep at h ⊢; exact h
  | .ty _, v, _, h => by unfold Rep at h ⊢; exact h
  | .cl _, v, _, h => by unfold Rep at h ⊢; rw [g.at_]; exact h
  | .kt0, v, _, h => by unfold Rep at h ⊢; rw [g.K]; exact h
  | .scr ns, v, _, h => by unfold Rep at h ⊢; rw [g.K]; exact h
  | .lamO k, v, l, h => by
    unfold Rep at h ⊢
    rcases l with ⟨l1, l2, _⟩ | l
    · rw [l1, l2]; exact h
    · unfold noLam at l; cases l
  | .exn fn fv, v, l, h => by
    unfold Rep at h ⊢
    unfold noLam at l
    rw [g.at_]
    obtain ⟨vv, e, f, q, l', r⟩ := h
    exact ⟨vv, e, f, q, l', reps_sim g fv vv l r⟩
  | .lam k cs, v, l, h => by
    rcases l with l | l
    · unfold Rep at h ⊢
      obtain ⟨f, c, pm, ctv, vs, e, ff, q, fc, qc, cv, r⟩ := h
      have r' := reps_sim g cs vs (.inl l) r
      obtain ⟨l1, l2, l3⟩ := l
      unfold CvIs at cv ⊢
      rw [l1, l2, l3]
      exact ⟨f, c, pm, ctv, vs, e, ff, q, fc, qc, cv, r'⟩
    · unfold noLam at l; cases l
  | .dvs ks vs, v, l, h => by
    unfold Rep at h ⊢
    unfold noLam at l
    have l1 : SimL G G' \/ noLams ks = true := l.imp id fun z => (Bool.and_eq_true_iff.mp z).1
    have l2 : SimL G G' \/ noLams vs = true := l.imp id fun z => (Bool.and_eq_true_iff.mp z).2
    rw [g.w]
    obtain ⟨b, a, o, kv, vv, e, fb, qb, f, sm, ko, q, d, r1, r2⟩ := h
    exact ⟨b, a, o, kv, vv, e, fb, qb, f, sm, ko, q, d, reps_sim g ks kv l1 r1, reps_sim g vs vv l2 r2⟩
theorem reps_sim (g : Sim G G') : ∀ (w : List W) (v : List V), SimL G G' \/ noLams w = true -> Reps G T H w v -> Reps G' T H w v
  | [], v, _, h => h
  | y :: r, v, l, h => by
    unfold Reps at h ⊢
    unfold noLams at l
    have l1 : SimL G G' \/ noLam y = true := l.imp id fun z => (Bool.and_eq_true_iff.mp z).1
    have l2 : SimL G G' \/ noLams r = true := l.imp id fun z => (Bool.and_eq_true_iff.mp z).2
    obtain ⟨u, s, e, h1, h2⟩ := h
    exact ⟨u, s, e, rep_sim g y u l1 h1, reps_sim g r s l2 h2⟩
end
end
end Mi
end
section
namespace Mi
open PySem PySem.Spec PyProof.Rows L2
abbrev Sl := L2.St
def nth : List (Option W) -> Nat -> Option W
  | [], _ => none
  | x :: _, 0 => x
  | _ :: r, n + 1 => nth r n
def put : List (Option W) -> Nat -> W -> List (Option W)
  | [], _, _ => []
  | _ :: r, 0, w => some w :: r
  | x :: r, n + 1, w => x :: put r n w
theorem nth_put_same : ∀ {l : List (Option W)} {i : Nat} {w u : W}, nth (put l i w) i = some u -> u = w
  | [], i, w, u, h => by unfold put nth at h; cases h
  | x :: r, 0, w, u, h => by unfold put nth at h; exact (Option.some.inj h).symm
  | x :: r, i + 1, w, u, h => by unfold put nth at h; exact nth_put_same h
theorem nth_put_other : ∀ {l : List (Option W)} {i j : Nat} {w : W}, j ≠ i -> nth (put l i w) j = nth l j
  | [], i, j, w, h => by unfold put; rfl
  | x :: r, 0, 0, w, h => absurd rfl h
  | x :: r, 0, j + 1, w, h => by unfold put nth; rfl
  | x :: r, i + 1, 0, w, h => by unfold put nth; rfl
  | x :: r, i + 1, j + 1, w, h => by unfold put nth; exact nth_put_other (by omega)
abbrev Me := List (Option W)
def R.bind {α β : Type} (r : R α) (f : α -> MH -> R β) : R β := match r with
  | .ok a h => f a h
  | .exc x h => .exc x h
  | .stuck => .stuck
def ofO {α : Type} (o : Option α) (h : MH) : R α := match o with
  | some a => .ok a h
  | none => .stuck
abbrev EM := Me -> MH -> R W
abbrev AM := Me -> MH -> R (List W)
variable (G : Kt)
structure Hrel (T : Tie) (h : MH) (H : Hp) : Prop where
  ok : T.Ok H
  nx : T.nx = h.nx
  obj : ∀ n o, h.get n = some o -> ∃ a, T.ρ n = some a /\ RepO G T H o a
  tb : ∀ p ∈ G.adr.tb, TabT T H p.1 p.2
def Erel (T : Tie) (me : Me) (σ : Sl) (H : Hp) : Prop := me.length = σ.length /\ ∀ i w, nth me i = some w -> ∃ v, σ[i]? = some (some v) /\ Rep G T H w v
def XcIs (T : Tie) (H : Hp) (x : Xc) (cls : Value) (d : Option Addr) : Prop := cls = .ref (G.adr x.c) /\ match x.fs, d with
  | none, none => True
  | some (fn, fv), some d => ∃ vv, H d = some (.xd (fn.zip vv)) /\ Fz T d /\ fn.length = vv.length /\ Reps G T H fv vv
  | _, _ => False
def Res {α β : Type} (rp : Tie -> Hp -> α -> β -> Prop) (Y : WX) (T : Tie) (H : Hp) (σ : Sl) (r : R α) (Q : β -> Hp -> Prop) : Prop := match r with
  | .ok w h' => ∀ T' H' v, Hrel G T' h' H' -> Ex T T' H H' -> rp T' H' w v -> Q v H'
  | .exc x h' => ∀ T' H' cls d, Hrel G T' h' H' -> Ex T T' H H' -> XcIs G T' H' x cls d -> Y cls d σ H'
  | .stuck => False
abbrev ResV := Res G (Rep G)
abbrev ResL := Res G (Reps G)
def RepB (_ : Tie) (_ : Hp) (w b : Bool) : Prop := w = b
abbrev ResB := Res G RepB
def asB (r : R W) : R Bool := r.bind fun w h => match w with
  | .bl b => .ok b h
  | _ => .stuck
def rdE (Y : WX) (m : EM) : TE := fun σ H Q => ∃ T me h, Hrel G T h H /\ Erel G T me σ H /\ ResV G Y T H σ (m me h) Q
def rdA (Y : WX) (m : AM) : TA := fun σ H Q => ∃ T me h, Hrel G T h H /\ Erel G T me σ H /\ ResL G Y T H σ (m me h) Q
def rdT (Y : WX) (m : EM) : TT := fun σ H Q => ∃ T me h, Hrel G T h H /\ Erel G T me σ H /\ ResB G Y T H σ (asB (m me h)) Q
variable {G}
section
variable {T T1 : Tie} {H H1 : Hp} {me : Me} {σ : Sl} {h h1 : MH} {Y : WX}
theorem Erel.ex (e : Erel G T me σ H) (x : Ex T T1 H H1) : Erel G T1 me σ H1 := ⟨e.1, fun i w q =>
  let ⟨v, e1, r⟩ := e.2 i w q
  ⟨v, e1, rep_ex x w v r⟩⟩
theorem Res.ex {α β : Type} {rp : Tie -> Hp -> α -> β -> Prop} {r : R α} {Q : β -> Hp -> Prop} (q : Res G rp Y T H σ r Q) (x : Ex T T1 H H1) : Res G rp Y T1 H1 σ r Q := by
  cases r with
  | ok w h' => exact fun T' H' v hr x' rp => q T' H' v hr (x.trans x') rp
  | exc e h' => exact fun T' H' c d hr x' rp => q T' H' c d hr (x.trans x') rp
  | stuck => exact q
theorem Res.bind {α β γ δ : Type} {rp : Tie -> Hp -> α -> β -> Prop} {rq : Tie -> Hp -> γ -> δ -> Prop} {r : R α} {f : α -> MH -> R γ} {Q : δ -> Hp -> Prop} {Q' : β -> Hp -> Prop} (q : Res G rq Y T H σ (r.bind f) Q)
    (k : ∀ w h1, r = .ok w h1 -> ∀ T1 H1 v, Hrel G T1 h1 H1 -> Ex T T1 H H1 -> rp T1 H1 w v -> Res G rq Y T1 H1 σ (f w h1) Q -> Q' v H1) : Res G rp Y T H σ r Q' := by
  cases r with
  | ok w h' => exact fun T' H' v hr x' rp => k w h' rfl T' H' v hr x' rp (Res.ex q x')
  | exc e h' => exact q
  | stuck => exact q
theorem Res.imp {α β : Type} {rp : Tie -> Hp -> α -> β -> Prop} {r : R α} {Q Q' : β -> Hp -> Prop} (q : Res G rp Y T H σ r Q) (k : ∀ v H', Q v H' -> Q' v H') : Res G rp Y T H σ r Q' := by
  cases r with
  | ok w h' => exact fun T' H' v hr x' rp => k _ _ (q T' H' v hr x' rp)
  | exc e h' => exact q
  | stuck => exact q
end
def Grow (H H' : Hp) : Prop := ∀ a o, H a = some o -> H' a = some o
theorem Grow.laid {H : Hp} {p : Addr} {o : HO} (hp : H p = none) : Grow H (upd H p o) := fun a u e => by rw [upd_ne (ne_of_none e hp)]; exact e
theorem Ex.grow {T : Tie} {H H' : Hp} (ok : T.Ok H) (g : Grow H H') : Ex T T H H' :=
  Ex.mk' (Nat.le_refl _) (fun _ _ => .inl rfl) (fun m a hm e => absurd (ok.lt m a e) (by omega)) (fun a o e _ => g a o e) (fun a e => by
    cases q : H a with
    | none => exact absurd q e
    | some o => rw [g a o q]; simp) (fun _ e => e) (fun _ e => .inl e) (fun a h => by
    cases q : H a with
    | none => exact absurd q (ok.hidT a h)
    | some o => exact g a o q)
theorem Tie.Ok.grow {T : Tie} {H H' : Hp} (ok : T.Ok H) (g : Grow H H') : T.Ok H' :=
  ⟨ok.lt, ok.inj, fun n a e => by
    cases q : H a with
    | none => exact absurd q (ok.there n a e)
    | some o => rw [g a o q]; simp, ok.hid, fun a e => by
    cases q : H a with
    | none => exact absurd q (ok.hidT a e)
    | some o => rw [g a o q]; simp⟩
theorem RepO.grow {T : Tie} {H H' : Hp} (ok : T.Ok H) (g : Grow H H') {o : O} {a : Addr} (r : RepO G T H o a) : RepO G T H' o a := by
  have x := Ex.grow ok g
  cases o with
  | lst ws => obtain ⟨vs, e, r⟩ := r; exact ⟨vs, g _ _ e, reps_ex x _ _ r⟩
  | dct ks vs => obtain ⟨o, kv, vv, sm, ko, e, d, r1, r2⟩ := r; exact ⟨o, kv, vv, sm, ko, g _ _ e, d, reps_ex x _ _ r1, reps_ex x _ _ r2⟩
  | ins c fn fv => obtain ⟨dx, vv, f, e, e2, l, r⟩ := r; exact ⟨dx, vv, f, g _ _ e, g _ _ e2, l, reps_ex x _ _ r⟩
theorem Hrel.grow {T : Tie} {h : MH} {H H' : Hp} (hr : Hrel G T h H) (g : Grow H H') : Hrel G T h H' :=
  ⟨hr.ok.grow g, hr.nx, fun n o e => let ⟨a, e1, r⟩ := hr.obj n o e; ⟨a, e1, r.grow hr.ok g⟩, fun p hp => (Ex.grow hr.ok g).tb _ _ (hr.tb p hp)⟩
theorem Tie.Ok.fresh {T : Tie} {H : Hp} (ok : T.Ok H) {p : Addr} (hp : H p = none) : Fz T p := ⟨fun n e => ok.there n p e hp, fun e => ok.hidT p e hp⟩
variable {X : Cx} {adr : Ad} {Y : WX}
abbrev kt (X : Cx) (adr : Ad) : Kt := ⟨X.prog, X.w, X.K, adr⟩
def ME (X : Cx) (adr : Ad) (Y : WX) (e : Expr) (m : EM) : Prop := PE X e (rdE (kt X adr) Y m)
def MA (X : Cx) (adr : Ad) (Y : WX) (es : List Expr) (m : AM) : Prop := PA X es (rdA (kt X adr) Y m)
def MT (X : Cx) (adr : Ad) (Y : WX) (e : Expr) (m : EM) : Prop := PT X e (rdT (kt X adr) Y m)
def MW (X : Cx) (adr : Ad) (Y : WX) (e : Expr) (m : EM) : Prop := PW X e (rdT (kt X adr) Y m)
theorem pe_imp {e : Expr} {t u : TE} (h : PE X e t) (i : ∀ σ H Q, u σ H Q -> t σ H Q) : PE X e u := ⟨fun pins s σ H Q I q => h.run pins s σ H Q I (i σ H Q q)⟩
theorem pt_imp {e : Expr} {t u : TT} (h : PT X e t) (i : ∀ σ H Q, u σ H Q -> t σ H Q) : PT X e u := ⟨fun pins s σ H Q I q => h.run pins s σ H Q I (i σ H Q q)⟩
theorem pw_imp {e : Expr} {t u : TT} (h : PW X e t) (i : ∀ σ H Q, u σ H Q -> t σ H Q) : PW X e u := ⟨fun wh pins s σ H Q I q => h.run wh pins s σ H Q I (i σ H Q q)⟩
theorem pa_imp {es : List Expr} {t u : TA} (h : PA X es t) (i : ∀ σ H Q, u σ H Q -> t σ H Q) : PA X es u := ⟨fun p pins s σ H Q I q => h.run p pins s σ H Q I (i σ H Q q)⟩
theorem MW.mt {e : Expr} {m : EM} (h : MW X adr Y e m) : MT X adr Y e m := PW.pt h
def mV (i : Nat) : EM := fun me h => ofO (nth me i) h
def mC (w : W) : EM := fun _ h => .ok w h
section
variable {x : Str} {pos : Pos} {i : Nat}
theorem me_var (hN : X.N[i]? = some x) (hv : Vis X.env.scope x) (hd : (x == ("__debug__" : Str)) = false) (hcd : (x == ("__classdict__" : Str)) = false) : ME X adr Y (.Name x pos) (mV i) := by
  refine pe_imp (pe_var hN hv hd hcd) fun σ H Q q => ?_
  obtain ⟨T, me, h, hr, he, q⟩ := q
  unfold mV at q
  cases e : nth me i with
  | none => rw [e] at q; exact q.elim
  | some w =>
    rw [e] at q
    obtain ⟨v, e1, rp⟩ := he.2 i w e
    exact ⟨v, e1, q T H v hr (Ex.rfl' hr.ok) rp⟩
theorem me_const {e : Expr} {w : W} {v : V} (h : PE X e (tC v)) (rp : ∀ T H, Rep (kt X adr) T H w v) : ME X adr Y e (mC w) := by
  refine pe_imp h fun σ H Q q => ?_
  obtain ⟨T, me, h, hr, he, q⟩ := q
  exact q T H v hr (Ex.rfl' hr.ok) (rp T H)
theorem me_int {i : Int} {j} : ME X adr Y (.Constant (.int i) j pos) (mC (.int i)) := me_const pe_int fun T H => by unfold Rep; rfl
theorem me_bl {b : Bool} {j} : ME X adr Y (.Constant (.bool b) j pos) (mC (.bl b)) := me_const pe_bl fun T H => by unfold Rep; rfl
theorem me_str {z : Str} {j} : ME X adr Y (.Constant (.str z) j pos) (mC (.str z)) := me_const pe_str fun T H => by unfold Rep; rfl
theorem me_globI {i : Int} (hg : Gl X x) (hm : ∃ t, X.mg x = some (.int i t)) (hd : (x == ("__debug__" : Str)) = false) : ME X adr Y (.Name x pos) (mC (.int i)) := by
  obtain ⟨t, hm⟩ := hm
  exact me_const (v := .int i) (pe_glob hg hm ⟨t, rfl⟩ hd) fun T H => by unfold Rep; rfl
theorem me_globS {z : Str} (hg : Gl X x) (hm : ∃ t, X.mg x = some (.str z t)) (hd : (x == ("__debug__" : Str)) = false) : ME X adr Y (.Name x pos) (mC (.str z)) := by
  obtain ⟨t, hm⟩ := hm
  exact me_const (v := .str z) (pe_glob hg hm ⟨t, rfl⟩ hd) fun T H => by unfold Rep; rfl
end
abbrev F2 := W -> W -> MH -> Option W
def Op2 (G : Kt) (r : R2) (f : F2) : Prop := ∀ T h H w1 w2 v1 v2, Hrel G T h H -> Rep G T H w1 v1 -> Rep G T H w2 v2 -> ∀ w, f w1 w2 h = some w ->
  ∀ Q : VK, (∀ T' H' v, Hrel G T' h H' -> Ex T T' H H' -> Rep G T' H' w v -> Q v H') -> r v1 v2 H Q
def mBin (f : F2) (a b : EM) : EM := fun me h => (a me h).bind fun x h1 => (b me h1).bind fun y h2 => ofO (f x y h2) h2
section
variable {a b : Expr} {ma mb : EM} {pos : Pos} {r : R2} {f : F2}
theorem rd_op (hf : Op2 (kt X adr) r f) : ∀ σ H Q, rdE (kt X adr) Y (mBin f ma mb) σ H Q -> tOp r (rdE (kt X adr) Y ma) (rdE (kt X adr) Y mb) σ H Q := by
  intro σ H Q q
  obtain ⟨T, me, h, hr, he, q⟩ := q
  refine ⟨T, me, h, hr, he, Res.bind q fun w1 h1 _ T1 H1 v1 hr1 x1 rp1 q1 => ?_⟩
  refine ⟨T1, me, h1, hr1, he.ex x1, Res.bind q1 fun w2 h2 _ T2 H2 v2 hr2 x2 rp2 q2 => ?_⟩
  cases e : f w1 w2 h2 with
  | none => rw [e] at q2; exact q2.elim
  | some w =>
    rw [e] at q2
    exact hf T2 h2 H2 w1 w2 v1 v2 hr2 (rep_ex x2 _ _ rp1) rp2 w e Q q2
theorem me_bin {op : Operator} (ho : OpR X (binaryOp op) r) (hf : Op2 (kt X adr) r f) (ha : ME X adr Y a ma) (hb : ME X adr Y b mb) : ME X adr Y (.BinOp a op b pos) (mBin f ma mb) :=
  pe_imp (pe_op ho ha hb) (rd_op hf)
theorem me_cmp {op : CmpOp} (ho : OpR X (compareOp op) r) (hf : Op2 (kt X adr) r f) (ha : ME X adr Y a ma) (hb : ME X adr Y b mb) (hm : behindInMarks op b = false) : ME X adr Y (.Compare a [op] [b] pos) (mBin f ma mb) :=
  pe_imp (pe_cmpR ho ha hb hm) (rd_op hf)
theorem rd_test {m : EM} : ∀ σ H Q, rdT G Y m σ H Q -> tTest (rdE G Y m) σ H Q := by
  intro σ H Q q
  obtain ⟨T, me, h, hr, he, q⟩ := q
  refine ⟨T, me, h, hr, he, Res.bind q fun w h1 _ T1 H1 v1 hr1 x1 rp1 q1 => ?_⟩
  cases w with
  | bl k =>
    unfold Rep at rp1
    exact ⟨k, rp1, q1 T1 H1 k hr1 (Ex.rfl' hr1.ok) rfl⟩
  | _ => exact q1.elim
theorem mt_cmp {op : CmpOp} (ho : OpR X (compareOp op) r) (hf : Op2 (kt X adr) r f) (ha : ME X adr Y a ma) (hb : ME X adr Y b mb) (hm : behindInMarks op b = false) : MT X adr Y (.Compare a [op] [b] pos) (mBin f ma mb) :=
  pt_imp (pt_cmpR ho ha hb hm) fun σ H Q q => by
    have z := rd_test σ H Q q
    exact rd_op (Y := Y) hf σ H _ z
theorem mt_val {m : EM} (ha : ME X adr Y a m) (he : ∀ whole, isTrue a X.env whole = (do let v <- whole; standAt a.pos; holding [v] (truthy v))) : MT X adr Y a m :=
  pt_imp (pt_val ha he) fun σ H Q q => rd_test σ H Q q
def mAnd (a b : EM) : EM := fun me h => (a me h).bind fun x h1 => match x with
  | .bl true => b me h1
  | .bl false => .ok (.bl false) h1
  | _ => .stuck
def mOr (a b : EM) : EM := fun me h => (a me h).bind fun x h1 => match x with
  | .bl true => .ok (.bl true) h1
  | .bl false => b me h1
  | _ => .stuck
def mNot (a : EM) : EM := fun me h => (a me h).bind fun x h1 => match x with
  | .bl k => .ok (.bl (!k)) h1
  | _ => .stuck
def mIf (t a b : EM) : EM := fun me h => (t me h).bind fun x h1 => match x with
  | .bl true => a me h1
  | .bl false => b me h1
  | _ => .stuck
theorem R.bind_bind {α β γ : Type} (r : R α) (f : α -> MH -> R β) (g : β -> MH -> R γ) : (r.bind f).bind g = r.bind fun a h => (f a h).bind g := by cases r <;> rfl
theorem asB_bind {α : Type} (r : R α) (f : α -> MH -> R W) : asB (r.bind f) = r.bind fun a h => asB (f a h) := R.bind_bind _ _ _
theorem Res.bindB {α β : Type} {rq : Tie -> Hp -> α -> β -> Prop} {T : Tie} {H : Hp} {σ : Sl} {r : R W} {f : W -> MH -> R α} {Q : β -> Hp -> Prop} {Q' : Bool -> Hp -> Prop} (q : Res G rq Y T H σ (r.bind f) Q) (hf : ∀ w h, (∀ b, w ≠ .bl b) -> f w h = .stuck)
    (k : ∀ b h1, r = .ok (.bl b) h1 -> ∀ T1 H1, Hrel G T1 h1 H1 -> Ex T T1 H H1 -> Res G rq Y T1 H1 σ (f (.bl b) h1) Q -> Q' b H1) : ResB G Y T H σ (asB r) Q' := by
  cases r with
  | ok w h' =>
    have q : Res G rq Y T H σ (f w h') Q := q
    cases w with
    | bl b =>
      intro T' H' v hr x' rp
      cases rp
      exact k b h' rfl T' H' hr x' (Res.ex q x')
    | _ =>
      rw [hf _ _ (fun b z => by cases z)] at q
      exact q.elim
  | exc e h' => exact q
  | stuck => exact q
variable {c : Expr} {mc : EM} {rest : List Expr}
theorem mw_and1 (ha : MT X adr Y a ma) : MW X adr Y (.BoolOp .And [a] pos) ma := pw_and1 ha
theorem mw_or1 (ha : MT X adr Y a ma) : MW X adr Y (.BoolOp .Or [a] pos) ma := pw_or1 ha
theorem mw_and (ha : MT X adr Y a ma) (hb : MW X adr Y (.BoolOp .And (b :: rest) pos) mb) : MW X adr Y (.BoolOp .And (a :: b :: rest) pos) (mAnd ma mb) := by
  refine pw_imp (pw_and ha hb) fun σ H Q q => ?_
  obtain ⟨T, me, h, hr, he, q⟩ := q
  refine ⟨T, me, h, hr, he, ?_⟩
  unfold mAnd at q
  rw [asB_bind] at q
  refine Res.bindB q (fun w h n => ?_) fun k h1 _ T1 H1 hr1 x1 q1 => ?_
  · cases w <;> first | rfl | exact absurd rfl (n _)
  · cases k with
    | true => exact ⟨T1, me, h1, hr1, he.ex x1, q1⟩
    | false => exact q1 T1 H1 false hr1 (Ex.rfl' hr1.ok) rfl
theorem mw_or (ha : MT X adr Y a ma) (hb : MW X adr Y (.BoolOp .Or (b :: rest) pos) mb) : MW X adr Y (.BoolOp .Or (a :: b :: rest) pos) (mOr ma mb) := by
  refine pw_imp (pw_or ha hb) fun σ H Q q => ?_
  obtain ⟨T, me, h, hr, he, q⟩ := q
  refine ⟨T, me, h, hr, he, ?_⟩
  unfold mOr at q
  rw [asB_bind] at q
  refine Res.bindB q (fun w h n => ?_) fun k h1 _ T1 H1 hr1 x1 q1 => ?_
  · cases w <;> first | rfl | exact absurd rfl (n _)
  · cases k with
    | true => exact q1 T1 H1 true hr1 (Ex.rfl' hr1.ok) rfl
    | false => exact ⟨T1, me, h1, hr1, he.ex x1, q1⟩
theorem mt_not (ha : MT X adr Y a ma) : MT X adr Y (.UnaryOp .Not a pos) (mNot ma) := by
  refine pt_imp (pt_not ha) fun σ H Q q => ?_
  obtain ⟨T, me, h, hr, he, q⟩ := q
  refine ⟨T, me, h, hr, he, ?_⟩
  unfold mNot at q
  rw [asB_bind] at q
  refine Res.bindB q (fun w h n => ?_) fun k h1 _ T1 H1 hr1 x1 q1 => ?_
  · cases w <;> first | rfl | exact absurd rfl (n _)
  · exact q1 T1 H1 (!k) hr1 (Ex.rfl' hr1.ok) rfl
theorem me_one {op} {m : EM} (h : ME X adr Y a m) : ME X adr Y (.BoolOp op [a] pos) m := pe_one h
theorem rd_bool {m : EM} {f : W -> MH -> R W} {T : Tie} {H : Hp} {σ : Sl} {h : MH} {me : Me} {Q : VK} {Q' : VK} (q : ResV G Y T H σ ((m me h).bind f) Q) (hf : ∀ w h, (∀ b, w ≠ .bl b) -> f w h = .stuck)
    (k : ∀ b h1 T1 H1, Hrel G T1 h1 H1 -> Ex T T1 H H1 -> ResV G Y T1 H1 σ (f (.bl b) h1) Q -> Q' (.bl b) H1) : ResV G Y T H σ (m me h) Q' :=
  Res.bind q fun w h1 _ T1 H1 v1 hr1 x1 rp1 q1 => by
    cases w with
    | bl b =>
      unfold Rep at rp1
      subst rp1
      exact k b h1 T1 H1 hr1 x1 q1
    | _ => rw [hf _ _ (fun b z => by cases z)] at q1; exact q1.elim
theorem me_and (ha : ME X adr Y a ma) (hb : ME X adr Y (.BoolOp .And (b :: rest) pos) mb) : ME X adr Y (.BoolOp .And (a :: b :: rest) pos) (mAnd ma mb) := by
  refine pe_imp (pe_and ha hb) fun σ H Q q => ?_
  obtain ⟨T, me, h, hr, he, q⟩ := q
  refine ⟨T, me, h, hr, he, rd_bool q (fun w h n => ?_) fun k h1 T1 H1 hr1 x1 q1 => ⟨k, rfl, ?_⟩⟩
  · cases w <;> first | rfl | exact absurd rfl (n _)
  · cases k with
    | true => exact ⟨T1, me, h1, hr1, he.ex x1, q1⟩
    | false => exact q1 T1 H1 _ hr1 (Ex.rfl' hr1.ok) (by unfold Rep; rfl)
theorem me_not (ha : ME X adr Y a ma) : ME X adr Y (.UnaryOp .Not a pos) (mNot ma) := by
  refine pe_imp (pe_not ha) fun σ H Q q => ?_
  obtain ⟨T, me, h, hr, he, q⟩ := q
  refine ⟨T, me, h, hr, he, rd_bool q (fun w h n => ?_) fun k h1 T1 H1 hr1 x1 q1 => ⟨k, rfl, ?_⟩⟩
  · cases w <;> first | rfl | exact absurd rfl (n _)
  · exact q1 T1 H1 _ hr1 (Ex.rfl' hr1.ok) (by unfold Rep; rfl)
theorem me_ifExp (hc : MT X adr Y c mc) (ha : ME X adr Y a ma) (hb : ME X adr Y b mb) : ME X adr Y (.IfExp c a b pos) (mIf mc ma mb) := by
  refine pe_imp (pe_ifExp hc ha hb) fun σ H Q q => ?_
  obtain ⟨T, me, h, hr, he, q⟩ := q
  refine ⟨T, me, h, hr, he, Res.bindB q (fun w h n => ?_) fun k h1 _ T1 H1 hr1 x1 q1 => ?_⟩
  · cases w <;> first | rfl | exact absurd rfl (n _)
  · cases k with
    | true => exact ⟨T1, me, h1, hr1, he.ex x1, q1⟩
    | false => exact ⟨T1, me, h1, hr1, he.ex x1, q1⟩
def mNil : AM := fun _ h => .ok [] h
def mCons (a : EM) (r : AM) : AM := fun me h => (a me h).bind fun x h1 => (r me h1).bind fun xs h2 => .ok (x :: xs) h2
variable {es : List Expr} {mr : AM}
theorem ma_nil : MA X adr Y [] mNil := pa_imp pa_nil fun σ H Q q => by
  obtain ⟨T, me, h, hr, he, q⟩ := q
  exact q T H [] hr (Ex.rfl' hr.ok) Reps.nil
theorem ma_cons (ha : ME X adr Y a ma) (hrr : MA X adr Y es mr) (hs : starEach (a :: es) X.env = (false, eval a X.env) :: starEach es X.env) : MA X adr Y (a :: es) (mCons ma mr) :=
  pa_imp (pa_cons ha hrr hs) fun σ H Q q => by
    obtain ⟨T, me, h, hr, he, q⟩ := q
    refine ⟨T, me, h, hr, he, Res.bind q fun w1 h1 _ T1 H1 v1 hr1 x1 rp1 q1 => ?_⟩
    refine ⟨T1, me, h1, hr1, he.ex x1, Res.bind q1 fun ws h2 _ T2 H2 vs hr2 x2 rp2 q2 => ?_⟩
    exact q2 T2 H2 _ hr2 (Ex.rfl' hr2.ok) (Reps.cons (rep_ex x2 _ _ rp1) rp2)
abbrev FA := List W -> MH -> Option W
def CallM (G : Kt) (r : List V -> Hp -> VK -> Prop) (f : FA) : Prop := ∀ T h H ws vs, Hrel G T h H -> Reps G T H ws vs -> ∀ w, f ws h = some w ->
  ∀ Q : VK, (∀ T' H' v, Hrel G T' h H' -> Ex T T' H H' -> Rep G T' H' w v -> Q v H') -> r vs H Q
def mCallB (f : FA) (as : AM) : EM := fun me h => (as me h).bind fun xs h1 => ofO (f xs h1) h1
theorem rd_callB {r : List V -> Hp -> VK -> Prop} {f : FA} {as : AM} (hf : CallM (kt X adr) r f) : ∀ σ H Q, rdE (kt X adr) Y (mCallB f as) σ H Q -> tCB r (rdA (kt X adr) Y as) σ H Q := by
  intro σ H Q q
  obtain ⟨T, me, h, hr, he, q⟩ := q
  refine ⟨T, me, h, hr, he, Res.bind q fun ws h1 _ T1 H1 vs hr1 x1 rp1 q1 => ?_⟩
  cases e : f ws h1 with
  | none => rw [e] at q1; exact q1.elim
  | some w =>
    rw [e] at q1
    exact hf T1 h1 H1 ws vs hr1 rp1 w e Q q1
theorem me_callB {x : Str} {id : String} {r : List V -> Hp -> VK -> Prop} {f : FA} {e : Expr} {as : AM} {p : Pos} (hc : CallR X (.builtin id) r) (hf : CallM (kt X adr) r f) (hg : Gl X x) (hm : X.mg x = none) (hv : bootBuiltins x = some (.builtin id)) (ha : MA X adr Y (e :: es) as)
    (hn : x ≠ "__name__") (hdb : (x == ("__debug__" : Str)) = false) (he : starEach (e :: es) X.env = (false, eval e X.env) :: starEach es X.env) (hpl : (backTo pos (starEach es X.env)).any (·.1) = false) :
    ME X adr Y (.Call (.Name x p) (e :: es) [] pos) (mCallB f as) := pe_imp (pe_callB hc hg hm hv ha hn hdb he hpl) (rd_callB hf)
theorem me_callTy {x : Str} {id : String} {r : List V -> Hp -> VK -> Prop} {f : FA} {e : Expr} {as : AM} {p : Pos} (hc : CallR X (.type id) r) (hf : CallM (kt X adr) r f) (hg : Gl X x) (hm : X.mg x = none) (hv : bootBuiltins x = some (.type id)) (ha : MA X adr Y (e :: es) as)
    (hn : x ≠ "__name__") (hdb : (x == ("__debug__" : Str)) = false) (he : starEach (e :: es) X.env = (false, eval e X.env) :: starEach es X.env) (hpl : (backTo pos (starEach es X.env)).any (·.1) = false) :
    ME X adr Y (.Call (.Name x p) (e :: es) [] pos) (mCallB f as) := pe_imp (pe_callTy hc hg hm hv ha hn hdb he hpl) (rd_callB hf)
end
end Mi
end
section
namespace Mi
open PySem PySem.Spec PyProof.Rows L2
inductive RS where
  | nx (me : Me) (h : MH) | rt (w : W) (h : MH) | bk (me : Me) (h : MH) | ct (me : Me) (h : MH) | exc (x : Xc) (me : Me) (h : MH) | stuck
abbrev SM := Me -> MH -> RS
def ResS (G : Kt) (Y : WX) (T : Tie) (H : Hp) (r : RS) (D : Ends) : Prop := match r with
  | .nx me h => ∀ T' H' σ', Hrel G T' h H' -> Ex T T' H H' -> Erel G T' me σ' H' -> D.nx σ' H'
  | .rt w h => ∀ T' H' v, Hrel G T' h H' -> Ex T T' H H' -> Rep G T' H' w v -> D.rt v H'
  | .bk me h => ∀ T' H' σ', Hrel G T' h H' -> Ex T T' H H' -> Erel G T' me σ' H' -> D.bk σ' H'
  | .ct me h => ∀ T' H' σ', Hrel G T' h H' -> Ex T T' H H' -> Erel G T' me σ' H' -> D.ct σ' H'
  | .exc x me h => ∀ T' H' σ' cls d, Hrel G T' h H' -> Ex T T' H H' -> Erel G T' me σ' H' -> XcIs G T' H' x cls d -> Y cls d σ' H'
  | .stuck => False
def rdS (G : Kt) (Y : WX) (m : SM) : TS := fun D σ H => ∃ T me h, Hrel G T h H /\ Erel G T me σ H /\ ResS G Y T H (m me h) D
def RS.ofE (me : Me) (r : R W) (f : W -> MH -> RS) : RS := match r with
  | .ok w h => f w h
  | .exc x h => .exc x me h
  | .stuck => .stuck
variable {G : Kt} {X : Cx} {adr : Ad} {Y : WX}
section
variable {T T1 : Tie} {H H1 : Hp} {me : Me} {σ : Sl} {h h1 : MH} {D : Ends}
theorem ResS.ex {r : RS} (q : ResS G Y T H r D) (x : Ex T T1 H H1) : ResS G Y T1 H1 r D := by
  cases r with
  | nx me h => exact fun T' H' σ' hr x' e => q T' H' σ' hr (x.trans x') e
  | rt w h => exact fun T' H' v hr x' e => q T' H' v hr (x.trans x') e
  | bk me h => exact fun T' H' σ' hr x' e => q T' H' σ' hr (x.trans x') e
  | ct me h => exact fun T' H' σ' hr x' e => q T' H' σ' hr (x.trans x') e
  | exc e me h => exact fun T' H' σ' c d hr x' e1 rp => q T' H' σ' c d hr (x.trans x') e1 rp
  | stuck => exact q
theorem ResS.bindE {r : R W} {f : W -> MH -> RS} {Q' : VK} (he : Erel G T me σ H) (q : ResS G Y T H (RS.ofE me r f) D)
    (k : ∀ w h1, r = .ok w h1 -> ∀ T1 H1 v, Hrel G T1 h1 H1 -> Ex T T1 H H1 -> Rep G T1 H1 w v -> Erel G T1 me σ H1 -> ResS G Y T1 H1 (f w h1) D -> Q' v H1) : ResV G Y T H σ r Q' := by
  cases r with
  | ok w h' => exact fun T' H' v hr x' rp => k w h' rfl T' H' v hr x' rp (he.ex x') (q.ex x')
  | exc e h' => exact fun T' H' c d hr x' rp => q T' H' σ c d hr x' (he.ex x') rp
  | stuck => exact q
theorem ResS.bindB {r : R W} {f : W -> MH -> RS} {Q' : Bool -> Hp -> Prop} (he : Erel G T me σ H) (q : ResS G Y T H (RS.ofE me r f) D) (hf : ∀ w h, (∀ b, w ≠ .bl b) -> f w h = .stuck)
    (k : ∀ b h1 T1 H1, Hrel G T1 h1 H1 -> Ex T T1 H H1 -> Erel G T1 me σ H1 -> ResS G Y T1 H1 (f (.bl b) h1) D -> Q' b H1) : ResB G Y T H σ (asB r) Q' := by
  cases r with
  | ok w h' =>
    have q : ResS G Y T H (f w h') D := q
    cases w with
    | bl b =>
      intro T' H' v hr x' rp
      cases rp
      exact k b h' T' H' hr x' (he.ex x') (q.ex x')
    | _ =>
      rw [hf _ _ (fun b z => by cases z)] at q
      exact q.elim
  | exc e h' => exact fun T' H' c d hr x' rp => q T' H' σ c d hr x' (he.ex x') rp
  | stuck => exact q
end
def MS (X : Cx) (adr : Ad) (Y : WX) (st : Stmt) (m : SM) : Prop := PS X st (rdS (kt X adr) Y m)
def MSs (X : Cx) (adr : Ad) (Y : WX) (st : List Stmt) (m : SM) : Prop := PSs X st (rdS (kt X adr) Y m)
theorem ps_imp {st : Stmt} {t u : TS} (h : PS X st t) (i : ∀ D σ H, u D σ H -> t D σ H) : PS X st u := ⟨fun pins s σ H D I q => h.run pins s σ H D I (i D σ H q)⟩
theorem pss_imp {st : List Stmt} {t u : TS} (h : PSs X st t) (i : ∀ D σ H, u D σ H -> t D σ H) : PSs X st u := ⟨fun pins s σ H D I q => h.run pins s σ H D I (i D σ H q)⟩
def sNil : SM := fun me h => .nx me h
def sSeq (a b : SM) : SM := fun me h => match a me h with
  | .nx me h => b me h
  | r => r
def sExpr (e : EM) : SM := fun me h => .ofE me (e me h) fun _ h => .nx me h
def sRet (e : EM) : SM := fun me h => .ofE me (e me h) fun w h => .rt w h
def sNever : SM := fun _ _ => .stuck
def sIf (t : EM) (a b : SM) : SM := fun me h => .ofE me (t me h) fun w h => match w with
  | .bl true => a me h
  | .bl false => b me h
  | _ => .stuck
def sSet (i : Nat) (e : EM) : SM := fun me h => .ofE me (e me h) fun w h => .nx (put me i w) h
section
variable {st : Stmt} {rest : List Stmt} {a b : SM} {e : Expr} {m : EM} {pos : Pos}
theorem rds_nx : ∀ D σ H, rdS G Y sNil D σ H -> tNext D σ H := fun D σ H ⟨T, me, h, hr, he, q⟩ => q T H σ hr (Ex.rfl' hr.ok) he
theorem ms_nil : MSs X adr Y [] sNil := pss_imp pss_nil rds_nx
theorem ms_never : MS X adr Y st sNever := ps_imp ps_never fun D σ H ⟨T, me, h, hr, he, q⟩ => q
theorem ms_cons (h1 : MS X adr Y st a) (h2 : MSs X adr Y rest b) : MSs X adr Y (st :: rest) (sSeq a b) := pss_imp (pss_cons h1 h2) fun D σ H ⟨T, me, h, hr, he, q⟩ => by
  refine ⟨T, me, h, hr, he, ?_⟩
  unfold sSeq at q
  cases e : a me h with
  | nx me1 h1 =>
    rw [e] at q
    exact fun T' H' σ' hr' x' e' => ⟨T', me1, h1, hr', e', q.ex x'⟩
  | rt w h1 => rw [e] at q; exact q
  | bk me1 h1 => rw [e] at q; exact q
  | ct me1 h1 => rw [e] at q; exact q
  | exc x me1 h1 => rw [e] at q; exact q
  | stuck => rw [e] at q; exact q
theorem ms_expr (he : ME X adr Y e m) (hs : swapsWith e none pos.line X.env = pure false) : MS X adr Y (.Expr e pos) (sExpr m) := ps_imp (ps_expr he hs) fun D σ H ⟨T, me, h, hr, he, q⟩ =>
  ⟨T, me, h, hr, he, ResS.bindE he q fun w h1 _ T1 H1 v hr1 x1 rp e1 q1 => q1 T1 H1 σ hr1 (Ex.rfl' hr1.ok) e1⟩
theorem ms_ret (he : ME X adr Y e m) : MS X adr Y (.Return (some e) pos) (sRet m) := ps_imp (ps_ret he) fun D σ H ⟨T, me, h, hr, he, q⟩ =>
  ⟨T, me, h, hr, he, ResS.bindE he q fun w h1 _ T1 H1 v hr1 x1 rp e1 q1 => q1 T1 H1 v hr1 (Ex.rfl' hr1.ok) rp⟩
theorem ms_if {c : Expr} {mc : EM} {sa sb : List Stmt} (hc : MT X adr Y c mc) (ha : MSs X adr Y sa a) (hb : MSs X adr Y sb b) : MS X adr Y (.If c sa sb pos) (sIf mc a b) := ps_imp (ps_if hc ha hb) fun D σ H ⟨T, me, h, hr, he, q⟩ =>
  ⟨T, me, h, hr, he, ResS.bindB he q (fun w h n => by cases w <;> first | rfl | exact absurd rfl (n _)) fun k h1 T1 H1 hr1 x1 e1 q1 => by
    cases k with
    | true => exact ⟨T1, me, h1, hr1, e1, q1⟩
    | false => exact ⟨T1, me, h1, hr1, e1, q1⟩⟩
theorem put_length : ∀ {l : Me} {i : Nat} {w : W}, (put l i w).length = l.length
  | [], _, _ => rfl
  | _ :: _, 0, _ => rfl
  | x :: r, i + 1, w => by
    show (put r i w).length + 1 = r.length + 1
    rw [put_length]
theorem nth_lt : ∀ {l : Me} {i : Nat} {w : W}, nth l i = some w -> i < l.length
  | [], _, _, h => by unfold nth at h; cases h
  | _ :: _, 0, _, _ => Nat.zero_lt_succ _
  | x :: r, i + 1, w, h => by unfold nth at h; exact Nat.succ_lt_succ (nth_lt h)
theorem Erel.put {T : Tie} {me : Me} {σ : Sl} {H : Hp} (e : Erel G T me σ H) {i : Nat} {w : W} {v : V} (rp : Rep G T H w v) : Erel G T (put me i w) (σ.set i (some v)) H := by
  refine ⟨by rw [put_length, e.1]; simp, fun j u q => ?_⟩
  by_cases hj : j = i
  · subst hj
    have lt := nth_lt q
    rw [put_length, e.1] at lt
    rw [nth_put_same q]
    exact ⟨v, List.getElem?_set_self lt, rp⟩
  · rw [nth_put_other hj] at q
    obtain ⟨u', e1, r⟩ := e.2 j u q
    exact ⟨u', by rw [List.getElem?_set_ne (Ne.symm hj)]; exact e1, r⟩
theorem ms_set {i : Nat} {x : Str} {pos' : Pos} (hN : X.N.Nodup) (hi : X.N[i]? = some x) (hx : Loc X.env.scope x) (he : ME X adr Y e m) (hs : swapsWith e (some (.Name x pos')) pos.line X.env = pure false) (hf : X.fn x = true \/ X.env.scope.names.lookup x = some .local) :
    MS X adr Y (.Assign [.Name x pos'] e pos) (sSet i m) := ps_imp (ps_set hN hi hx he hs hf) fun D σ H ⟨T, me, h, hr, he, q⟩ =>
  ⟨T, me, h, hr, he, ResS.bindE he q fun w h1 _ T1 H1 v hr1 x1 rp e1 q1 => q1 T1 H1 _ hr1 (Ex.rfl' hr1.ok) (e1.put rp)⟩
def sWhile (t : EM) (b : SM) : Nat -> SM
  | 0 => fun _ _ => .stuck
  | n + 1 => fun me h => .ofE me (t me h) fun w h => match w with
    | .bl true => match b me h with
      | .nx me h => sWhile t b n me h
      | .ct me h => sWhile t b n me h
      | .bk me h => .nx me h
      | r => r
    | .bl false => .nx me h
    | _ => .stuck
theorem ms_while {c : Expr} {body : List Stmt} {mc : EM} {n : Nat} (hp : PassesOwn (model X.prog X.w) X.A X.env X.xe) (hc : MT X adr Y c mc) (hb : MSs X adr Y body b) : MS X adr Y (.While c body [] pos) (sWhile mc b n) := ps_imp (ps_while hp hc hb) fun D σ H ⟨T, me, h, hr, he, q⟩ => by
  refine ⟨fun k σ H => ∃ T me h, Hrel (kt X adr) T h H /\ Erel (kt X adr) T me σ H /\ ResS (kt X adr) Y T H (sWhile mc b k me h) D, ⟨n, T, me, h, hr, he, q⟩, ?_⟩
  rintro k σ H ⟨T, me, h, hr, he, q⟩
  cases k with
  | zero => exact q.elim
  | succ k =>
    refine ⟨T, me, h, hr, he, ResS.bindB he q (fun w h n => by cases w <;> first | rfl | exact absurd rfl (n _)) fun z h1 T1 H1 hr1 x1 e1 q1 => ?_⟩
    cases z with
    | false => exact q1 T1 H1 σ hr1 (Ex.rfl' hr1.ok) e1
    | true =>
      rw [if_pos rfl]
      refine ⟨fun σ H => ∃ T me h, Hrel (kt X adr) T h H /\ Erel (kt X adr) T me σ H /\ ResS (kt X adr) Y T H (sWhile mc b k me h) D, fun σ' H' w => ⟨k, by omega, w⟩, T1, me, h1, hr1, e1, ?_⟩
      cases eb : b me h1 with
      | nx me2 h2 =>
        simp only [eb] at q1
        exact fun T' H' σ' hr' x' e' => ⟨T', me2, h2, hr', e', q1.ex x'⟩
      | ct me2 h2 =>
        simp only [eb] at q1
        exact fun T' H' σ' hr' x' e' => ⟨T', me2, h2, hr', e', q1.ex x'⟩
      | bk me2 h2 => simp only [eb] at q1; exact q1
      | rt w h2 => simp only [eb] at q1; exact q1
      | exc x me2 h2 => simp only [eb] at q1; exact q1
      | stuck => simp only [eb] at q1; exact q1.elim
abbrev GM := W -> Me -> Option Me
theorem wipe_get (σ : Sl) : ∀ (vs : List Nat) (j : Nat), (wipe σ vs)[j]? = if j ∈ vs /\ j < σ.length then some none else σ[j]?
  | [], j => by simp [wipe]
  | v :: vs, j => by
    unfold wipe
    by_cases hj : j = v
    · subst hj
      by_cases hl : j < σ.length
      · rw [List.getElem?_set_self (by rw [wipe_length]; exact hl)]
        simp [hl]
      · rw [List.getElem?_eq_none (by rw [List.length_set, wipe_length]; omega)]
        simp [hl]
    · rw [List.getElem?_set_ne (Ne.symm hj), wipe_get σ vs j]
      simp [hj]
theorem wipe_set {σ : Sl} {vs : List Nat} {i : Nat} {x : Option V} (h : i ∈ vs) : wipe (σ.set i x) vs = wipe σ vs := by
  apply List.ext_getElem?
  intro j
  rw [wipe_get, wipe_get, List.length_set]
  by_cases hj : j = i
  · subst hj
    by_cases hl : j < σ.length
    · simp [h, hl]
    · rw [List.getElem?_eq_none (l := σ.set j x) (by rw [List.length_set]; omega), List.getElem?_eq_none (l := σ) (by omega)]
  · rw [List.getElem?_set_ne (Ne.symm hj)]
def rdG (G : Kt) (g : GM) (vs : List Nat) : TG := fun v σ H Q => ∃ T me h w, Hrel G T h H /\ Erel G T me σ H /\ Rep G T H w v /\ ∃ me', g w me = some me' /\ ∀ σ', Erel G T me' σ' H -> wipe σ' vs = wipe σ vs -> Q σ' H
abbrev GMs := List W -> Me -> Option Me
def rdGs (G : Kt) (g : GMs) (sl : List Nat) : TGs := fun vs σ H Q => ∃ T me h ws, Hrel G T h H /\ Erel G T me σ H /\ Reps G T H ws vs /\ ∃ me', g ws me = some me' /\ ∀ σ', Erel G T me' σ' H -> wipe σ' sl = wipe σ sl -> Q σ' H
def MG (X : Cx) (adr : Ad) (tg : Expr) (g : GM) (sl : List Nat) : Prop := PG X tg (rdG (kt X adr) g sl)
def MGs (X : Cx) (adr : Ad) (tgs : List Expr) (g : GMs) (sl : List Nat) : Prop := PGs X tgs (rdGs (kt X adr) g sl)
theorem pg_imp {tg : Expr} {t u : TG} (h : PG X tg t) (i : ∀ v σ H Q, u v σ H Q -> t v σ H Q) : PG X tg u := ⟨fun pins s σ H v w Q I r q => h.run pins s σ H v w Q I r (i v σ H Q q)⟩
theorem pgs_imp {tg : List Expr} {t u : TGs} (h : PGs X tg t) (i : ∀ v σ H Q, u v σ H Q -> t v σ H Q) : PGs X tg u := ⟨fun pins s σ H v w Q I r q => h.run pins s σ H v w Q I r (i v σ H Q q)⟩
def gSet (i : Nat) : GM := fun w me => some (put me i w)
theorem mg_name {i : Nat} {x : Str} (hN : X.N.Nodup) (hi : X.N[i]? = some x) (hx : Loc X.env.scope x) (hf : X.fn x = true \/ X.env.scope.names.lookup x = some .local) {sl : List Nat} (hs : i ∈ sl) : MG X adr (.Name x pos) (gSet i) sl :=
  pg_imp (pg_name hN hi hx hf) fun v σ H Q ⟨T, me, h, w, hr, he, rp, me', e, q⟩ => by
    cases e
    exact q _ (he.put rp) (wipe_set hs)
def gNo : GMs := fun ws me => match ws with
  | [] => some me
  | _ => none
def gAnd (g : GM) (r : GMs) : GMs := fun ws me => match ws with
  | w :: ws => match g w me with
    | some me => r ws me
    | none => none
  | [] => none
theorem mgs_nil {sl : List Nat} : MGs X adr [] gNo sl := pgs_imp pgs_nil fun v σ H Q ⟨T, me, h, ws, hr, he, rp, me', e, q⟩ => by
  cases ws with
  | nil =>
    cases e
    unfold Reps at rp
    exact ⟨rp, q σ he rfl⟩
  | cons _ _ => cases e
theorem mgs_cons {tg : Expr} {tgs : List Expr} {g : GM} {r : GMs} {sl : List Nat} (h1 : MG X adr tg g sl) (h2 : MGs X adr tgs r sl) (hs : (assignEach (tg :: tgs) X.env).map (·.2) = assign tg X.env :: (assignEach tgs X.env).map (·.2)) : MGs X adr (tg :: tgs) (gAnd g r) sl :=
  pgs_imp (pgs_cons h1 h2 hs) fun v σ H Q ⟨T, me, h, ws, hr, he, rp, me', e, q⟩ => by
    cases ws with
    | nil => cases e
    | cons w ws =>
      unfold Reps at rp
      obtain ⟨u, s, rfl, r1, r2⟩ := rp
      unfold gAnd at e
      dsimp only at e
      refine ⟨u, s, rfl, T, me, h, w, hr, he, r1, ?_⟩
      cases e1 : g w me with
      | none => rw [e1] at e; cases e
      | some me1 =>
        rw [e1] at e
        exact ⟨me1, rfl, fun σ' he' w1 => ⟨T, me1, h, ws, hr, he', r2, me', e, fun σ'' he'' w2 => q σ'' he'' (w2.trans w1)⟩⟩
def gTupM (n : Nat) (r : GMs) : GM := fun w me => match w with
  | .tup ws => match Nat.beq ws.length n with
    | true => r ws me
    | false => none
  | _ => none
theorem mg_tup {es : List Expr} {k n : Nat} {r : GMs} {sl : List Nat} (hc : X.calm = true) (h : MGs X adr es r sl) (hn : (assignEach es X.env).length = n) (hst : (assignEach es X.env).findIdx? (·.1) = none) : MG X adr (.Tuple es k pos) (gTupM n r) sl :=
  pg_imp (pg_tup hc h hn hst) fun v σ H Q ⟨T, me, h, w, hr, he, rp, me', e, q⟩ => by
    cases w with
    | tup ws =>
      unfold Rep at rp
      obtain ⟨a, vs, rfl, f, sq, rs⟩ := rp
      unfold gTupM at e
      simp only at e
      cases el : Nat.beq ws.length n with
      | false => rw [el] at e; cases e
      | true =>
        rw [el] at e
        exact ⟨a, vs, rfl, .inl (.inl sq), by rw [<- rs.length]; exact Nat.eq_of_beq_eq_true el, T, me, h, ws, hr, he, rs, me', e, q⟩
    | _ => cases e
def sAsg (g : GM) (m : EM) : SM := fun me h => .ofE me (m me h) fun w h => match g w me with
  | some me => .nx me h
  | none => .stuck
theorem ms_asg {tg : Expr} {g : GM} {sl : List Nat} (he : ME X adr Y e m) (hg : MG X adr tg g sl) (hs : swapsWithSole [tg] e pos.line X.env = pure false) (hw : swappedStores [tg] e X.env = pure none) (h1 : (assignEach [tg] X.env).map (·.2) = [assign tg X.env]) :
    MS X adr Y (.Assign [tg] e pos) (sAsg g m) := ps_imp (ps_asg he hg hs hw h1) fun D σ H ⟨T, me, h, hr, he, q⟩ =>
  ⟨T, me, h, hr, he, ResS.bindE he q fun w h1 _ T1 H1 v hr1 x1 rp e1 q1 => by
    cases e : g w me with
    | none => rw [e] at q1; exact q1.elim
    | some me2 =>
      rw [e] at q1
      exact ⟨T1, me, h1, w, hr1, e1, rp, me2, e, fun σ' he' _ => q1 T1 H1 σ' hr1 (Ex.rfl' hr1.ok) he'⟩⟩
end
structure Wk (G : Kt) (T : Tie) (H : Hp) (ws : List W) (J : It) : Prop where
  go : ∀ T' H' (i : Nat), T'.Ok H' -> Ex T T' H H' -> i < ws.length -> J.go i H'
  stop : ∀ T' H', T'.Ok H' -> Ex T T' H H' -> J.stop ws.length H'
  yld : ∀ T' H' (i : Nat) x H'' h w, Hrel G T' h H' -> Ex T T' H H' -> ws[i]? = some w -> J.yld i H' x H'' -> Hrel G T' h H'' /\ Ex T' T' H' H'' /\ Rep G T' H'' w x
def rdI (G : Kt) (Y : WX) (m : AM) : TI := fun σ H Q => ∃ T me h, Hrel G T h H /\ Erel G T me σ H /\ Res G (Wk G) Y T H σ (m me h) Q
def MI (X : Cx) (adr : Ad) (Y : WX) (tg iter : Expr) (m : AM) : Prop := PI X tg iter (rdI (kt X adr) Y m)
theorem pi_imp {tg iter : Expr} {t u : TI} (h : PI X tg iter t) (i : ∀ σ H Q, u σ H Q -> t σ H Q) : PI X tg iter u := ⟨fun pins s σ H R I q => h.run pins s σ H R I (i σ H R q)⟩
def sFor (g : GM) (b : SM) : List W -> SM
  | [] => fun me h => .nx me h
  | w :: ws => fun me h => match g w me with
    | none => .stuck
    | some me => match b me h with
      | .nx me h => sFor g b ws me h
      | .ct me h => sFor g b ws me h
      | .bk me h => .nx me h
      | r => r
def RS.ofA (me : Me) (r : R (List W)) (f : List W -> MH -> RS) : RS := match r with
  | .ok w h => f w h
  | .exc x h => .exc x me h
  | .stuck => .stuck
def sForI (src : AM) (g : GM) (b : SM) : SM := fun me h => .ofA me (src me h) fun ws h => sFor g b ws me h
theorem ResS.bindA {β : Type} {rp : Tie -> Hp -> List W -> β -> Prop} {T : Tie} {H : Hp} {me : Me} {σ : Sl} {D : Ends} {r : R (List W)} {f : List W -> MH -> RS} {Q' : β -> Hp -> Prop} (he : Erel G T me σ H) (q : ResS G Y T H (RS.ofA me r f) D)
    (k : ∀ w h1, r = .ok w h1 -> ∀ T1 H1 v, Hrel G T1 h1 H1 -> Ex T T1 H H1 -> rp T1 H1 w v -> Erel G T1 me σ H1 -> ResS G Y T1 H1 (f w h1) D -> Q' v H1) : Res G rp Y T H σ r Q' := by
  cases r with
  | ok w h' => exact fun T' H' v hr x' rp => k w h' rfl T' H' v hr x' rp (he.ex x') (q.ex x')
  | exc e h' => exact fun T' H' c d hr x' rp => q T' H' σ c d hr x' (he.ex x') rp
  | stuck => exact q
theorem drop_cons {α : Type} {l : List α} {i : Nat} {w : α} {r : List α} (h : l.drop i = w :: r) : l[i]? = some w /\ l.drop (i + 1) = r /\ i < l.length := by
  have e : l[i]? = some w := by
    have := List.getElem?_drop (xs := l) (i := i) (j := 0)
    rw [h] at this
    simpa using this.symm
  refine ⟨e, ?_, ?_⟩
  · rw [<- List.drop_drop, h]; rfl
  · exact (List.getElem?_eq_some_iff.mp e).1
theorem ms_for {tg iter : Expr} {body : List Stmt} {src : AM} {g : GM} {b : SM} {pos : Pos} {sl : List Nat} (hp : PassesOwn (model X.prog X.w) X.A X.env X.xe) (hc : X.calm = true) (hi : MI X adr Y tg iter src) (hg : MG X adr tg g sl) (hb : MSs X adr Y body b)
    (hs : ∀ x, foldedSetIterable iter X.env x = pure x) : MS X adr Y (.For tg iter body [] pos) (sForI src g b) := ps_imp (ps_for hp hc hi hg hb hs) fun D σ H ⟨T, me, h, hr, he, q⟩ => by
  refine ⟨T, me, h, hr, he, ResS.bindA he q fun ws h1 _ T1 H1 J hr1 x1 wk e1 q1 => ?_⟩
  refine ⟨fun i m σ H => m = ws.length - i /\ i <= ws.length /\ ∃ T me h, Hrel (kt X adr) T h H /\ Ex T1 T H1 H /\ Erel (kt X adr) T me σ H /\ ResS (kt X adr) Y T H (sFor g b (ws.drop i) me h) D, ⟨ws.length, by simp, Nat.zero_le _, T1, me, h1, hr1, Ex.rfl' hr1.ok, e1, by simpa using q1⟩, ?_⟩
  rintro i m σ H ⟨rfl, hi, T2, me2, h2, hr2, x2, e2, q2⟩
  cases ed : ws.drop i with
  | nil =>
    have el : i = ws.length := by
      have := congrArg List.length ed
      simp at this
      omega
    subst el
    rw [ed] at q2
    exact .inl ⟨wk.stop T2 H hr2.ok x2, q2 T2 H σ hr2 (Ex.rfl' hr2.ok) e2⟩
  | cons w r =>
    obtain ⟨ew, er, lt⟩ := drop_cons ed
    rw [ed] at q2
    unfold sFor at q2
    refine .inr ⟨wk.go T2 H i hr2.ok x2 lt, fun σ H => ∃ T me h, Hrel (kt X adr) T h H /\ Ex T1 T H1 H /\ Erel (kt X adr) T me σ H /\ ResS (kt X adr) Y T H (sFor g b (ws.drop (i + 1)) me h) D, fun σ' H' w => ⟨_, by omega, rfl, lt, w⟩, fun x H' y => ?_⟩
    obtain ⟨hr3, x3, rp⟩ := wk.yld T2 H i x H' h2 w hr2 x2 ew y
    have q3 := q2.ex x3
    cases eg : g w me2 with
    | none => rw [eg] at q3; exact q3.elim
    | some me3 =>
      rw [eg] at q3
      dsimp only at q3
      refine ⟨T2, me2, h2, w, hr3, e2.ex x3, rp, me3, eg, fun σ4 e4 _ => ⟨T2, me3, h2, hr3, e4, ?_⟩⟩
      cases eb : b me3 h2 with
      | nx me5 h5 =>
        rw [eb] at q3
        exact fun T' H' σ' hr' x' e' => ⟨T', me5, h5, hr', (x2.trans x3).trans x', e', by rw [er]; exact q3.ex x'⟩
      | ct me5 h5 =>
        rw [eb] at q3
        exact fun T' H' σ' hr' x' e' => ⟨T', me5, h5, hr', (x2.trans x3).trans x', e', by rw [er]; exact q3.ex x'⟩
      | bk me5 h5 => rw [eb] at q3; exact q3
      | rt w5 h5 => rw [eb] at q3; exact q3
      | exc x5 me5 h5 => rw [eb] at q3; exact q3
      | stuck => rw [eb] at q3; exact q3.elim
def wip : Me -> Nat -> Me
  | [], _ => []
  | _ :: r, 0 => none :: r
  | x :: r, n + 1 => x :: wip r n
def wipeW (me : Me) : List Nat -> Me
  | [] => me
  | v :: vs => wip (wipeW me vs) v
theorem wip_length : ∀ (me : Me) (i : Nat), (wip me i).length = me.length
  | [], _ => rfl
  | _ :: _, 0 => rfl
  | x :: r, n + 1 => by
    show (wip r n).length + 1 = r.length + 1
    rw [wip_length]
theorem nth_wip_same : ∀ (me : Me) (i : Nat), nth (wip me i) i = none
  | [], _ => rfl
  | _ :: _, 0 => rfl
  | x :: r, n + 1 => nth_wip_same r n
theorem nth_wip_other : ∀ (me : Me) (i j : Nat), j ≠ i -> nth (wip me i) j = nth me j
  | [], _, _, _ => rfl
  | _ :: _, 0, 0, h => absurd rfl h
  | _ :: _, 0, _ + 1, _ => rfl
  | _ :: _, _ + 1, 0, _ => rfl
  | _ :: r, i + 1, j + 1, h => nth_wip_other r i j (by omega)
theorem Erel.wipe {T : Tie} {me : Me} {σ : Sl} {H : Hp} (e : Erel G T me σ H) : ∀ (vs : List Nat), Erel G T (wipeW me vs) (L2.wipe σ vs) H
  | [] => e
  | v :: vs => by
    obtain ⟨l, z⟩ := Erel.wipe e vs
    unfold wipeW L2.wipe
    refine ⟨by rw [wip_length, l, List.length_set], fun j u q => ?_⟩
    by_cases hj : j = v
    · subst hj; rw [nth_wip_same] at q; cases q
    · rw [nth_wip_other _ _ _ hj] at q
      obtain ⟨x, e1, r⟩ := z j u q
      exact ⟨x, by rw [List.getElem?_set_ne (Ne.symm hj)]; exact e1, r⟩
def R.nox {α : Type} (r : R α) : R α := match r with
  | .exc _ _ => .stuck
  | r => r
abbrev Y0 : WX := fun _ _ _ _ => False
def MTs (X : Cx) (adr : Ad) (Y : WX) (ifs : List Expr) (m : EM) : Prop := PTs X ifs (rdT (kt X adr) Y m)
abbrev yes : EM := mC (.bl true)
theorem mts_nil : MTs X adr Y [] yes := ⟨fun pins s σ H Q I q => pts_nil.run pins s σ H Q I (by
  obtain ⟨T, me, h, hr, he, q⟩ := q
  exact q T H true hr (Ex.rfl' hr.ok) rfl)⟩
theorem mts_one {c : Expr} {m : EM} (h : MT X adr Y c m) : MTs X adr Y [c] m := pts_one h
def lcM (g : GM) (t e : EM) (me0 : Me) : List W -> List W -> MH -> R (List W)
  | [], acc, h => .ok acc h
  | w :: ws, acc, h => match g w me0 with
    | none => .stuck
    | some me => (t me h).nox.bind fun b h => match b with
      | .bl true => (e me h).nox.bind fun x h => lcM g t e me0 ws (x :: acc) h
      | .bl false => lcM g t e me0 ws acc h
      | _ => .stuck
def rev (l : List W) : List W := go l []
where
  go : List W -> List W -> List W
  | [], a => a
  | x :: r, a => go r (x :: a)
theorem rev_go : ∀ (l a : List W), rev.go l a = l.reverse ++ a
  | [], a => by simp [rev.go]
  | x :: r, a => by unfold rev.go; rw [rev_go r]; simp
theorem rev_eq (l : List W) : rev l = l.reverse := by unfold rev; rw [rev_go]; simp
def lenOk (ws : List W) : Bool := Nat.blt ws.length 16777216
def mLc (src : AM) (g : GM) (t e : EM) (vs : List Nat) : EM := fun me h => (src me h).bind fun ws h => match lenOk ws with
  | true => (lcM g t e (wipeW me vs) ws [] h).bind fun xs h => .ok (.lst (rev xs)) h
  | false => .stuck
abbrev Tie.hide (T : Tie) (D : Addr) : Tie := { T with hid := D :: T.hid }
abbrev Tie.show (T : Tie) (D : Addr) : Tie := { T with hid := T.hid.filter fun a => decide (a ≠ D) }
mutual
theorem rep_as {T T' : Tie} {H H' : Hp} (hn : T.nx <= T'.nx) (hf : ∀ a o, H a = some o -> Fz T a -> Fz T' a /\ H' a = some o) (hr : ∀ n a, n < T.nx -> T'.ρ n = some a -> T.ρ n = some a) : ∀ (w : W) (v : V), Rep G T H w v -> Rep G T' H' w v
  | .non, v, h => h
  | .bl _, v, h => h
  | .int _, v, h => h
  | .str _, v, h => h
  | .tup ws, v, h => by
    unfold Rep at h ⊢
    obtain ⟨a, vs, e, f, q, r⟩ := h
    exact ⟨a, vs, e, (hf a _ q f).1, (hf a _ q f).2, reps_as hn hf hr ws vs r⟩
  | .lst ws, v, h => by
    unfold Rep at h ⊢
    obtain ⟨a, vs, e, f, q, r⟩ := h
    exact ⟨a, vs, e, (hf a _ q f).1, (hf a _ q f).2, reps_as hn hf hr ws vs r⟩
  | .dct ks vs, v, h => by
    unfold Rep at h ⊢
    obtain ⟨a, o, kv, vv, e, f, sm, ko, q, d, r1, r2⟩ := h
    exact ⟨a, o, kv, vv, e, (hf a _ q f).1, sm, ko, (hf a _ q f).2, d, reps_as hn hf hr ks kv r1, reps_as hn hf hr vs vv r2⟩
  | .ins c fn fv, v, h => by
    unfold Rep at h ⊢
    obtain ⟨a, dx, vv, e, f, f2, q, q2, l, r⟩ := h
    exact ⟨a, dx, vv, e, (hf a _ q f).1, (hf dx _ q2 f2).1, (hf a _ q f).2, (hf dx _ q2 f2).2, l, reps_as hn hf hr fv vv r⟩
  | .ref n, v, h => by
    unfold Rep at h ⊢
    exact ⟨Nat.lt_of_lt_of_le h.1 hn, fun a e => h.2 a (hr n a h.1 e)⟩
  | .ty _, v, h => by unfold Rep at h ⊢; exact h
  | .cl _, v, h => by unfold Rep at h ⊢; exact h
  | .kt0, v, h => by unfold Rep at h ⊢; exact h
  | .lamO k, v, h => by
    unfold Rep at h ⊢
    obtain ⟨f, c, pm, ctv, e, ff, q, fc, qc⟩ := h
    exact ⟨f, c, pm, ctv, e, (hf f _ q ff).1, (hf f _ q ff).2, (hf c _ qc fc).1, (hf c _ qc fc).2⟩
  | .lam k cs, v, h => by
    unfold Rep at h ⊢
    obtain ⟨f, c, pm, ctv, vs, e, ff, q, fc, qc, cv, r⟩ := h
    exact ⟨f, c, pm, ctv, vs, e, (hf f _ q ff).1, (hf f _ q ff).2, (hf c _ qc fc).1, (hf c _ qc fc).2, cv, reps_as hn hf hr cs vs r⟩
  | .exn fn fv, v, h => by
    unfold Rep at h ⊢
    obtain ⟨vv, e, f, q, l, r⟩ := h
    exact ⟨vv, e, (hf _ _ q f).1, (hf _ _ q f).2, l, reps_as hn hf hr fv vv r⟩
  | .scr ns, v, h => by
    unfold Rep at h ⊢
    obtain ⟨a, e, q⟩ := h
    refine ⟨a, e, q.imp (fun q => ?_) id⟩
    obtain ⟨f, r⟩ := q
    rcases r with r | ⟨o, r⟩
    · exact ⟨(hf a _ r f).1, .inl (hf a _ r f).2⟩
    · exact ⟨(hf a _ r f).1, .inr ⟨o, (hf a _ r f).2⟩⟩
  | .dvs ks vs, v, h => by
    unfold Rep at h ⊢
    obtain ⟨b, a, o, kv, vv, e, fb, qb, f, sm, ko, q, d, r1, r2⟩ := h
    exact ⟨b, a, o, kv, vv, e, (hf b _ qb fb).1, (hf b _ qb fb).2, (hf a _ q f).1, sm, ko, (hf a _ q f).2, d, reps_as hn hf hr ks kv r1, reps_as hn hf hr vs vv r2⟩
theorem reps_as {T T' : Tie} {H H' : Hp} (hn : T.nx <= T'.nx) (hf : ∀ a o, H a = some o -> Fz T a -> Fz T' a /\ H' a = some o) (hr : ∀ n a, n < T.nx -> T'.ρ n = some a -> T.ρ n = some a) : ∀ (w : List W) (v : List V), Reps G T H w v -> Reps G T' H' w v
  | [], v, h => h
  | y :: r, v, h => by
    unfold Reps at h ⊢
    obtain ⟨u, s, e, h1, h2⟩ := h
    exact ⟨u, s, e, rep_as hn hf hr y u h1, reps_as hn hf hr r s h2⟩
end
theorem RepO.as {T T' : Tie} {H H' : Hp} (hn : T.nx <= T'.nx) (hf : ∀ a o, H a = some o -> Fz T a -> Fz T' a /\ H' a = some o) (hr : ∀ n a, n < T.nx -> T'.ρ n = some a -> T.ρ n = some a) {o : O} {a : Addr} (ha : ∀ u, H a = some u -> H' a = some u) (r : RepO G T H o a) : RepO G T' H' o a := by
  cases o with
  | lst ws => obtain ⟨vs, e, r⟩ := r; exact ⟨vs, ha _ e, reps_as hn hf hr _ _ r⟩
  | dct ks vs => obtain ⟨o, kv, vv, sm, ko, e, d, r1, r2⟩ := r; exact ⟨o, kv, vv, sm, ko, ha _ e, d, reps_as hn hf hr _ _ r1, reps_as hn hf hr _ _ r2⟩
  | ins c fn fv => obtain ⟨dx, vv, f, e, e2, l, r⟩ := r; exact ⟨dx, vv, (hf _ _ e2 f).1, ha _ e, (hf _ _ e2 f).2, l, reps_as hn hf hr _ _ r⟩
theorem Erel.as {T T' : Tie} {H H' : Hp} (hn : T.nx <= T'.nx) (hf : ∀ a o, H a = some o -> Fz T a -> Fz T' a /\ H' a = some o) (hr : ∀ n a, n < T.nx -> T'.ρ n = some a -> T.ρ n = some a) {me : Me} {σ : Sl} (e : Erel G T me σ H) : Erel G T' me σ H' :=
  ⟨e.1, fun i w q => let ⟨v, e1, r⟩ := e.2 i w q; ⟨v, e1, rep_as hn hf hr w v r⟩⟩
theorem hide_new {T : Tie} {h : MH} {H : Hp} (hr : Hrel G T h H) {D : Addr} {o : HO} (hD : H D = none) : Hrel G (T.hide D) h (upd H D o) /\ Ex T (T.hide D) H (upd H D o) := by
  have ne : ∀ {a u}, H a = some u -> a ≠ D := fun {a u} e z => by rw [z, hD] at e; cases e
  have ne' : ∀ {a}, H a ≠ none -> a ≠ D := fun {a} e z => by rw [z] at e; exact e hD
  have hf : ∀ a u, H a = some u -> Fz T a -> Fz (T.hide D) a /\ upd H D o a = some u := fun a u e f =>
    ⟨⟨f.own, fun hm => (List.mem_cons.mp hm).elim (ne e) f.hid⟩, by rw [upd_ne (ne e)]; exact e⟩
  have ok := hr.ok
  have x : Ex T (T.hide D) H (upd H D o) := Ex.mk' (Nat.le_refl _) (fun _ _ => .inl rfl) (fun m a hm e => absurd (ok.lt m a e) (Nat.not_lt.mpr hm)) (fun a u e f => (hf a u e f).2) (fun a e => by rw [upd_ne (ne' e)]; exact e)
      (fun a hm => List.mem_cons_of_mem _ hm) (fun a hm => (List.mem_cons.mp hm).elim (fun z => .inr (by rw [z]; exact hD)) .inl) (fun a hm => upd_ne (ne' (ok.hidT a hm)))
  refine ⟨⟨⟨ok.lt, ok.inj, fun n a e => by rw [upd_ne (ne' (ok.there n a e))]; exact ok.there n a e, fun n a e hm => ?_, fun a hm => ?_⟩, hr.nx, fun n u e => ?_, fun p hp => x.tb _ _ (hr.tb p hp)⟩, x⟩
  · rcases List.mem_cons.mp hm with z | z
    · exact ok.there n a e (by rw [z]; exact hD)
    · exact ok.hid n a e z
  · by_cases z : a = D
    · subst z; rw [upd_same]; simp
    · rcases List.mem_cons.mp hm with q | q
      · exact absurd q z
      · rw [upd_ne z]; exact ok.hidT a q
  · obtain ⟨a, e1, r⟩ := hr.obj n u e
    exact ⟨a, e1, r.as (show T.nx <= (T.hide D).nx from Nat.le_refl _) hf (fun _ _ _ e => e) fun u e => by rw [upd_ne (ne e)]; exact e⟩
theorem hid_set {T : Tie} {h : MH} {H : Hp} {D : Addr} {o : HO} (hr : Hrel G T h H) (hm : D ∈ T.hid) (nt : ∀ ps, H D ≠ some (.tbl ps)) : Hrel G T h (upd H D o) /\ (∀ a u, H a = some u -> Fz T a -> Fz T a /\ upd H D o a = some u) := by
  have hf : ∀ a u, H a = some u -> Fz T a -> Fz T a /\ upd H D o a = some u := fun a u e f => ⟨f, by rw [upd_ne (fun z => f.hid (by rw [z]; exact hm))]; exact e⟩
  have nr : ∀ {n a}, T.ρ n = some a -> a ≠ D := fun {n a} e z => hr.ok.hid n a e (by rw [z]; exact hm)
  refine ⟨⟨⟨hr.ok.lt, hr.ok.inj, fun n a e => by rw [upd_ne (nr e)]; exact hr.ok.there n a e, hr.ok.hid, fun a ha => ?_⟩, hr.nx, fun n u e => ?_, fun p hp => (hr.tb p hp).to id (fun ps _ e => by rw [upd_ne (fun z => nt ps (by rw [<- z]; exact e))]; exact e) fun c n e => hf c _ e n⟩, hf⟩
  · by_cases z : a = D
    · subst z; rw [upd_same]; simp
    · rw [upd_ne z]; exact hr.ok.hidT a ha
  · obtain ⟨a, e1, r⟩ := hr.obj n u e
    exact ⟨a, e1, r.as (Nat.le_refl _) hf (fun _ _ _ e => e) fun u e => by rw [upd_ne (nr e1)]; exact e⟩
theorem Ex.setD {T T' : Tie} {H H' : Hp} {D : Addr} {o : HO} (x : Ex T T' H H') (hD : H D = none) (ok : T.Ok H) (nc : ∀ q, H' D ≠ some (LamX.CodeO D q)) : Ex T T' H (upd H' D o) :=
  ⟨x.nx, x.old, x.new, fun a u e f => by rw [upd_ne (fun z => by rw [z, hD] at e; cases e)]; exact x.fz a u e f, fun a e => by rw [upd_ne (fun z => by rw [z] at e; exact e hD)]; exact x.there a e,
    x.hid, x.hidN, fun a hm n => by rw [upd_ne (fun z => ok.hidT a hm (by rw [z]; exact hD))]; exact x.hidS a hm n,
    fun P q t => (x.tb P q t).to id (fun ps _ e => by rw [upd_ne (fun z => ok.hidT P t.1 (by rw [z]; exact hD))]; exact e) fun c n e => ⟨n, by rw [upd_ne (fun z => nc q (by rw [<- z]; exact e))]; exact e⟩⟩
theorem unhide {T T1 : Tie} {h : MH} {H H1 : Hp} {D : Addr} (hr : Hrel G T h H) (x : Ex T1 T H1 H) (ok1 : T1.Ok H1) (hD : H1 D = none) (hm : D ∈ T.hid) (nt : ∀ ps, H D ≠ some (.tbl ps)) : Hrel G (T.show D) h H /\ Ex T1 (T.show D) H1 H /\ Fz (T.show D) D /\ (∀ a u, H a = some u -> Fz T a -> Fz (T.show D) a /\ H a = some u) := by
  have hf : ∀ a u, H a = some u -> Fz T a -> Fz (T.show D) a /\ H a = some u := fun a u e f => ⟨⟨f.own, fun hm => f.hid (List.mem_filter.mp hm).1⟩, e⟩
  refine ⟨⟨⟨hr.ok.lt, hr.ok.inj, hr.ok.there, fun n a e hm => hr.ok.hid n a e (List.mem_filter.mp hm).1, fun a hm => hr.ok.hidT a (List.mem_filter.mp hm).1⟩, hr.nx, fun n u e => ?_, fun p hp => let t := hr.tb p hp; t.to (fun hp => List.mem_filter.mpr ⟨hp, decide_eq_true fun z => (let ⟨_, _, ps, e, _⟩ := t; nt ps (by rw [<- z]; exact e))⟩) (fun _ _ e => e) fun c n e => hf c _ e n⟩,
    ⟨x.nx, x.old, x.new, x.fz, x.there, fun a hm => List.mem_filter.mpr ⟨x.hid a hm, decide_eq_true fun z => ok1.hidT a hm (by rw [z]; exact hD)⟩, fun a hm => x.hidN a (List.mem_filter.mp hm).1, x.hidS, fun P q t => (x.tb P q t).to (fun hp => List.mem_filter.mpr ⟨hp, decide_eq_true fun z => ok1.hidT P t.1 (by rw [z]; exact hD)⟩) (fun _ _ e => e) fun c n e => hf c _ e n⟩, ⟨fun n e => hr.ok.hid n D e hm, fun hm => of_decide_eq_true (List.mem_filter.mp hm).2 rfl⟩, hf⟩
  obtain ⟨a, e1, r⟩ := hr.obj n u e
  exact ⟨a, e1, r.as (show T.nx <= (T.show D).nx from Nat.le_refl _) hf (fun _ _ _ e => e) fun u e => e⟩
theorem nox_cases {α γ δ : Type} {rq : Tie -> Hp -> γ -> δ -> Prop} {T : Tie} {H : Hp} {σ : Sl} {r : R α} {f : α -> MH -> R γ} {Q : δ -> Hp -> Prop} (q : Res G rq Y T H σ (r.nox.bind f) Q) : ∃ w h, r = .ok w h /\ Res G rq Y T H σ (f w h) Q := by
  cases r with
  | ok w h => exact ⟨w, h, rfl, q⟩
  | exc e h' => exact q.elim
  | stuck => exact q.elim
theorem reps_setD {T : Tie} {H : Hp} {D : Addr} {o : HO} (hm : D ∈ T.hid) {ws : List W} {vs : List V} (r : Reps G T H ws vs) : Reps G T (upd H D o) ws vs :=
  reps_as (Nat.le_refl _) (fun a u e f => ⟨f, by rw [upd_ne (fun z => f.hid (by rw [z]; exact hm))]; exact e⟩) (fun _ _ _ e => e) _ _ r
theorem rd_lc {src : AM} {g : GM} {t e : EM} {sl : List Nat} : ∀ σ H Q, rdE (kt X adr) Y (mLc src g t e sl) σ H Q -> tLc (rdI (kt X adr) Y src) (rdG (kt X adr) g sl) (rdT (kt X adr) Y0 t) (rdE (kt X adr) Y0 e) sl σ H Q := by
  intro σ H Q ⟨T, me, h, hr, hE, q⟩
  refine ⟨T, me, h, hr, hE, Res.bind q fun ws h1 _ T1 H1 J hr1 x1 wk q1 D hD => ?_⟩
  have hE1 := (hE.ex x1).wipe sl
  cases lk : lenOk ws with
  | false => rw [lk] at q1; exact q1.elim
  | true =>
  rw [lk] at q1
  have lt : ws.length < sizeLine := by rw [sizeLine_eq]; exact Nat.le_of_ble_eq_true lk
  obtain ⟨hr2, x2⟩ := hide_new (o := .lst []) hr1 hD
  refine ⟨fun i m H => m = ws.length - i /\ i <= ws.length /\ ∃ T2 h2 acc av, Hrel (kt X adr) T2 h2 H /\ Ex T1 T2 H1 H /\ D ∈ T2.hid /\ H D = some (.lst av) /\ Reps (kt X adr) T2 H acc.reverse av /\ acc.length <= i /\
    ResV (kt X adr) Y T1 H1 σ ((lcM g t e (wipeW me sl) (ws.drop i) acc h2).bind fun xs h => .ok (.lst (rev xs)) h) Q, ⟨ws.length, by simp, Nat.zero_le _, T1.hide D, h1, [], [], hr2, x2, List.mem_cons_self, upd_same, Reps.nil, Nat.le_refl _, by simpa using q1⟩, ?_⟩
  rintro i m H2 ⟨rfl, hi, T2, h2, acc, av, hr2, x2, hm, hDv, rp, al, q2⟩
  cases ed : ws.drop i with
  | nil =>
    have el : i = ws.length := by
      have := congrArg List.length ed
      simp at this
      omega
    subst el
    rw [ed] at q2
    refine .inl ⟨wk.stop T2 H2 hr2.ok x2, ?_⟩
    obtain ⟨hr3, x3, fD, hf⟩ := unhide hr2 x2 hr1.ok hD hm (fun ps z => by rw [hDv] at z; cases z)
    refine q2 (T2.show D) H2 (.ref D) hr3 x3 ?_
    unfold Rep
    rw [rev_eq]
    exact ⟨D, av, rfl, fD, hDv, reps_as (show T2.nx <= (T2.show D).nx from Nat.le_refl _) hf (fun _ _ _ e => e) _ _ rp⟩
  | cons w r =>
    obtain ⟨ew, er, lt'⟩ := drop_cons ed
    rw [ed] at q2
    unfold lcM at q2
    refine .inr ⟨wk.go T2 H2 i hr2.ok x2 lt', fun H => ∃ T2 h2 acc av, Hrel (kt X adr) T2 h2 H /\ Ex T1 T2 H1 H /\ D ∈ T2.hid /\ H D = some (.lst av) /\ Reps (kt X adr) T2 H acc.reverse av /\ acc.length <= i + 1 /\
      ResV (kt X adr) Y T1 H1 σ ((lcM g t e (wipeW me sl) (ws.drop (i + 1)) acc h2).bind fun xs h => .ok (.lst (rev xs)) h) Q, fun H' z => ⟨_, by omega, rfl, lt', z⟩, fun x H3 y => ?_⟩
    obtain ⟨hr3, x3, rpw⟩ := wk.yld T2 H2 i x H3 h2 w hr2 x2 ew y
    have D3 : H3 D = some (.lst av) := by exact x3.hidL hm hDv (fun _ z => nomatch z)
    have rp3 := reps_ex x3 _ _ rp
    cases eg : g w (wipeW me sl) with
    | none => rw [eg] at q2; exact q2.elim
    | some me3 =>
      rw [eg] at q2
      dsimp only at q2
      rw [R.bind_bind] at q2
      obtain ⟨b, h4, et, q3⟩ := nox_cases q2
      have x13 := x2.trans x3
      refine ⟨T2, wipeW me sl, h2, w, hr3, hE1.ex x13, rpw, me3, eg, fun σ4 e4 w4 => ⟨?_, T2, me3, h2, hr3, e4, ?_⟩⟩
      · rw [w4]
        apply List.ext_getElem?
        intro j
        rw [wipe_get, wipe_get, wipe_length]
        by_cases z : j ∈ sl /\ j < σ.length
        · rw [if_pos z, if_pos z]
        · rw [if_neg z, if_neg z]
      · rw [et]
        cases b with
        | bl k =>
          intro T5 H5 k' hr5 x5 rk
          cases rk
          have D5 : H5 D = some (.lst av) := by exact x5.hidL hm D3 (fun _ z => nomatch z)
          have hm5 : D ∈ T5.hid := x5.hid D hm
          have rp5 := reps_ex x5 _ _ rp3
          cases k with
          | false =>
            rw [if_neg Bool.false_ne_true]
            exact ⟨T5, h4, acc, av, hr5, x13.trans x5, hm5, D5, rp5, by omega, by rw [er]; exact q3⟩
          | true =>
            rw [if_pos rfl]
            dsimp only at q3
            rw [R.bind_bind] at q3
            obtain ⟨xw, h6, ee, q4⟩ := nox_cases q3
            refine ⟨T5, me3, h4, hr5, e4.ex x5, ?_⟩
            rw [ee]
            intro T7 H7 v7 hr7 x7 rp7
            have D7 : H7 D = some (.lst av) := by exact x7.hidL hm5 D5 (fun _ z => nomatch z)
            have hm7 : D ∈ T7.hid := x7.hid D hm5
            have rpa := reps_ex x7 _ _ rp5
            have avl : av.length < sizeLine := by rw [<- rpa.length, List.length_reverse]; omega
            have x17 := (x13.trans x5).trans x7
            obtain ⟨hr8, hf8⟩ := hid_set (o := .lst (av ++ [v7])) hr7 hm7 (fun ps z => by rw [D7] at z; cases z)
            refine ⟨av, D7, avl, T7, h6, xw :: acc, av ++ [v7], hr8, x17.setD hD hr1.ok (fun q z => by rw [D7] at z; cases z), hm7, upd_same, ?_, by simp; omega, by rw [er]; exact q4⟩
            rw [List.reverse_cons]
            exact reps_setD hm7 (rpa.append (.cons rp7 .nil))
        | _ => exact q3.elim
theorem me_lc {elt tg iter : Expr} {ifs : List Expr} {scope : Scope} {own : List (Str × Nat)} {pos : Pos} {src : AM} {g : GM} {t e : EM} {sl : List Nat} (hc : X.calm = true) (hN : X.N.Nodup) (hi : MI X adr Y tg iter src) (ok : BlkOk X.N X.env.scope scope own) (hsl : sl = own.map (·.2))
    (hg : ∀ (s : Shared) (H : Hp) (C : Addr) (cl : List (Str × Addr)) (fp : List Addr), MG (X.blk s H scope (compEnvC scope cl C X.env) fp) adr tg g sl) (ht : ∀ (s : Shared) (H : Hp) (C : Addr) (cl : List (Str × Addr)) (fp : List Addr), MTs (X.blk s H scope (compEnvC scope cl C X.env) fp) adr Y0 ifs t)
    (he : ∀ (s : Shared) (H : Hp) (C : Addr) (cl : List (Str × Addr)) (fp : List Addr), ME (X.blk s H scope (compEnvC scope cl C X.env) fp) adr Y0 elt e) (hs : ∀ x, foldedSetIterable iter X.env x = pure x) :
    ME X adr Y (.ListComp elt [⟨tg, iter, ifs, 0⟩] scope pos) (mLc src g t e sl) := by
  subst hsl
  exact pe_imp (pe_lc (g := rdG (kt X adr) g (own.map (fun x : Str × Nat => x.2))) (tt := rdT (kt X adr) Y0 t) (te := rdE (kt X adr) Y0 e) hc hN hi ok hg ht he hs) rd_lc
theorem ms_setLc {i : Nat} {y : Str} {py : Pos} {elt tg iter : Expr} {ifs : List Expr} {scope : Scope} {own : List (Str × Nat)} {pos spos : Pos} {src : AM} {g : GM} {t e : EM} {sl : List Nat} (hy : X.N[i]? = some y) (hyl : X.env.scope.names.lookup y = some .local)
    (hsw : swapsWith (.ListComp elt [⟨tg, iter, ifs, 0⟩] scope pos) (some (.Name y py)) spos.line X.env = pure true) (hc : X.calm = true) (hN : X.N.Nodup) (hi : MI X adr Y tg iter src) (ok : BlkOk X.N X.env.scope scope own) (hsl : sl = own.map (·.2))
    (hg : ∀ (s : Shared) (H : Hp) (C : Addr) (cl : List (Str × Addr)) (fp : List Addr), MG (X.blk s H scope (compEnvC scope cl C X.env) fp) adr tg g sl) (ht : ∀ (s : Shared) (H : Hp) (C : Addr) (cl : List (Str × Addr)) (fp : List Addr), MTs (X.blk s H scope (compEnvC scope cl C X.env) fp) adr Y0 ifs t)
    (he : ∀ (s : Shared) (H : Hp) (C : Addr) (cl : List (Str × Addr)) (fp : List Addr), ME (X.blk s H scope (compEnvC scope cl C X.env) fp) adr Y0 elt e) (hs : ∀ x, foldedSetIterable iter X.env x = pure x) :
    MS X adr Y (.Assign [.Name y py] (.ListComp elt [⟨tg, iter, ifs, 0⟩] scope pos) spos) (sSet i (mLc src g t e sl)) := by
  subst hsl
  refine ps_imp (ps_setLc (g := rdG (kt X adr) g (own.map (fun x : Str × Nat => x.2))) (tt := rdT (kt X adr) Y0 t) (te := rdE (kt X adr) Y0 e) hc hN hy hyl hsw hi ok hg ht he hs) fun D σ H ⟨T, me, h, hr, hE, q⟩ => rd_lc (adr := adr) (Y := Y) σ H _ ⟨T, me, h, hr, hE, ResS.bindE hE q fun w h1 _ T1 H1 v hr1 x1 rp e1 q1 => q1 T1 H1 _ hr1 (Ex.rfl' hr1.ok) (e1.put rp)⟩
end Mi
end
section
namespace Mi
open PySem PySem.Spec PyProof.Rows L2
variable {G : Kt} {X : Cx} {adr : Ad} {Y : WX}
def ResF (G : Kt) (T : Tie) (H : Hp) (r : R W) (Q : VK) (E : XK) : Prop := match r with
  | .ok w h' => ∀ T' H' v, Hrel G T' h' H' -> Ex T T' H H' -> Rep G T' H' w v -> Q v H'
  | .exc x h' => ∀ T' H' cls d, Hrel G T' h' H' -> Ex T T' H H' -> XcIs G T' H' x cls d -> E cls d H'
  | .stuck => False
abbrev FM := List W -> MH -> R W
def spM (G : Kt) (mf : FM) : Sp := fun vs H Q E => ∃ T ws h, Hrel G T h H /\ Reps G T H ws vs /\ ResF G T H (mf ws h) Q E
def keepLt (k : Nat) : List (Nat × O) -> List (Nat × O)
  | [] => []
  | (m, o) :: r => match Nat.ble k m with
    | true => keepLt k r
    | false => (m, o) :: keepLt k r
theorem lookN_keepLt {k n : Nat} {o : O} : ∀ {l : List (Nat × O)}, lookN n (keepLt k l) = some o -> lookN n l = some o
  | (m, u) :: r, e => by
    unfold keepLt at e
    cases q : Nat.ble k m with
    | true =>
      rw [q] at e
      have ih := lookN_keepLt e
      unfold lookN
      cases z : Nat.beq n m with
      | false => exact ih
      | true =>
        exfalso
        have nm : n = m := Nat.eq_of_beq_eq_true z
        have hk : ∀ l : List (Nat × O), lookN n (keepLt k l) = none := by
          intro l
          induction l with
          | nil => rfl
          | cons p r ih =>
            obtain ⟨a, b⟩ := p
            unfold keepLt
            cases y : Nat.ble k a with
            | true => exact ih
            | false =>
              unfold lookN
              cases y2 : Nat.beq n a with
              | false => exact ih
              | true =>
                have : n = a := Nat.eq_of_beq_eq_true y2
                rw [<- nm, this, y] at q
                cases q
        rw [hk] at e
        cases e
    | false =>
      rw [q] at e
      unfold lookN at e ⊢
      cases z : Nat.beq n m with
      | true => rw [z] at e; exact e
      | false => rw [z] at e; exact lookN_keepLt e
def MH.back (h' : MH) (k : Nat) : MH := ⟨h'.nx, keepLt k h'.l⟩
theorem Hrel.back {T : Tie} {h : MH} {H : Hp} (hr : Hrel G T h H) (k : Nat) : Hrel G T (h.back k) H := ⟨hr.ok, hr.nx, fun n o e => hr.obj n o (lookN_keepLt e), hr.tb⟩
def padM (nl : Nat) : List W -> Me
  | [] => List.replicate nl none
  | w :: r => some w :: padM nl r
def mDef (np nl : Nat) (dr : Bool) (body : SM) : FM := fun ws h => match Nat.beq ws.length np with
  | false => .stuck
  | true => match body (padM nl ws) h with
    | .nx _ h' => .ok .non (match dr with | true => h'.back h.nx | false => h')
    | .rt w h' => .ok w (match dr with | true => h'.back h.nx | false => h')
    | .exc x _ h' => .exc x h'
    | _ => .stuck
theorem nth_none : ∀ (n i : Nat), nth (List.replicate n none) i = none
  | 0, _ => rfl
  | n + 1, 0 => rfl
  | n + 1, i + 1 => nth_none n i
theorem Erel.start {T : Tie} {H : Hp} (m nl : Nat) : ∀ {ws : List W} {vs : List V}, Reps G T H ws vs -> Erel G T (padM nl ws) (vs.map some ++ List.replicate nl none) H
  | [], vs, r => by
    unfold Reps at r
    subst r
    refine ⟨by simp [padM], fun i w e => ?_⟩
    unfold padM at e
    rw [nth_none] at e
    cases e
  | w :: ws, vs, r => by
    unfold Reps at r
    obtain ⟨v, s, rfl, h1, h2⟩ := r
    have ih := Erel.start m nl h2
    refine ⟨by simp only [padM, List.map_cons, List.cons_append, List.length_cons]; rw [ih.1], fun i u e => ?_⟩
    cases i with
    | zero =>
      unfold padM nth at e
      cases e
      exact ⟨v, rfl, h1⟩
    | succ i =>
      unfold padM nth at e
      obtain ⟨x, e1, r1⟩ := ih.2 i u e
      exact ⟨x, by simpa using e1, r1⟩
section
variable {P : Program} {w : World} {K : PySem.W.Frag} {mg : Str -> Option Value} {base : Heap}
theorem fn_m {x qual : Str} {params : Arguments} {body : List Stmt} {scope : Scope} {dvs : List V} {kws : List (Str × V)} {f : Addr} {fd : FuncData} {N ps : List Str} {k np nl : Nat} {dr : Bool} {m : SM}
    (F : FunD K x qual params body scope dvs kws f fd) (S : FnScope N ps scope) (h1 : ps.length = np) (h2 : N.length = np + nl)
    (hb : ∀ (cdv : Value) (A : Around) (outer : List Env) (s : Shared) (H : Hp) (E : XK), Room k (A.deeper (envOfC qual scope s.heap.objs.size f cdv)) ->
      MSs (cxOf (L2N.CX P w) P w K mg base N qual scope f cdv A outer s H E) adr (fun cls d _ H => E cls d H) body m) :
    FnOk P w K mg base (L2N.CX P w) (k + 1) f fd ps (spM ⟨P, w, K, adr⟩ (mDef np nl dr m)) := by
  have hl : ∀ vs H Q E, spM ⟨P, w, K, adr⟩ (mDef np nl dr m) vs H Q E -> vs.length = np := fun vs H Q E ⟨T, ws, h, hr, rp, q⟩ => by
    unfold mDef at q
    cases e : Nat.beq ws.length np with
    | false => rw [e] at q; exact q.elim
    | true => rw [<- rp.length]; exact Nat.eq_of_beq_eq_true e
  refine F.ok S (fun vs H Q E h => by rw [h1]; exact hl vs H Q E h) fun cdv A outer s H vs Q E hr h => ⟨_, hb cdv A outer s H E hr, ?_⟩
  have lv := hl vs H Q E h
  obtain ⟨T, ws, mh, hr, rp, q⟩ := h
  refine ⟨T, padM nl ws, mh, hr, ?_, ?_⟩
  · have := Erel.start (G := ⟨P, w, K, adr⟩) 0 nl rp
    unfold L2.start
    rw [show N.length - vs.length = nl by omega]
    exact this
  · unfold mDef at q
    cases e : Nat.beq ws.length np with
    | false => rw [e] at q; exact q.elim
    | true =>
      rw [e] at q
      dsimp only at q
      cases eb : m (padM nl ws) mh with
      | nx me h' =>
        rw [eb] at q
        intro T' H' σ' hr' x' e'
        refine q T' H' .non ?_ x' (by unfold Rep; rfl)
        cases dr with
        | true => exact hr'.back _
        | false => exact hr'
      | rt w h' =>
        rw [eb] at q
        intro T' H' v hr' x' rp
        refine q T' H' v ?_ x' rp
        cases dr with
        | true => exact hr'.back _
        | false => exact hr'
      | bk me h' => rw [eb] at q; exact q.elim
      | ct me h' => rw [eb] at q; exact q.elim
      | exc x me h' => rw [eb] at q; exact fun T' H' σ' cls d hr' x' e' xi => q T' H' cls d hr' x' xi
      | stuck => rw [eb] at q; exact q.elim
end
section
variable {k : Nat} {f C : Addr} {fd : FuncData} {ps : List Str} {mf : FM} {dws : List W} {ds : List Value} {x m : Str} {p pos apos : Pos} {e o : Expr} {es : List Expr} {as : AM} {mo : EM}
def Dfl (K : PySem.W.Frag) (dws : List W) (ds : List Value) : Prop := ∀ (G : Kt) T H, G.K = K -> ∃ dvs, Vals dvs ds /\ Reps G T H dws dvs
theorem Dfl.nil {K : PySem.W.Frag} : Dfl K [] [] := fun G T H _ => ⟨[], .nil, Reps.nil⟩
theorem res_f {T : Tie} {H : Hp} {σ : Sl} {r : R W} {Q : VK} (q : ResV G Y T H σ r Q) : ResF G T H r Q (fun cls d H' => Y cls d σ H') := by
  cases r with
  | ok w h => exact q
  | exc x h => exact q
  | stuck => exact q
theorem run_m {pins : List (Addr × Obj)} {σ : Sl} {H : Hp} {s : Shared} {Q : VK} {us : List Value} {vs : List V} {T : Tie} {h : MH} {ws : List W} (F : FnOk X.prog X.w X.K X.mg X.base (L2N.CX X.prog X.w) k f fd ps (spM (kt X adr) mf)) (hr : Room k X.A) (hb : Binds X.K fd ps ds) (hd : Dfl X.K dws ds) (tk : L2N.Takes X Y)
    (I : Inv X pins σ H s) (r : Vals vs us) (hR : Hrel (kt X adr) T h H) (rp : Reps (kt X adr) T H ws vs) (q : ResV (kt X adr) Y T H σ (mf (ws ++ dws) h) Q) : wpAny (model X.prog X.w) X.A (call (.ref f) us) (EP X pins σ Q) X.xe s := by
  obtain ⟨dvs, rd, rpd⟩ := hd (kt X adr) T H rfl
  have r2 : Vals (vs ++ dvs) (us ++ ds) := r.append rd
  have hsp : spM (kt X adr) mf (vs ++ dvs) H Q (fun cls d H' => Y cls d σ H') := ⟨T, ws ++ dws, h, hR, rp.append rpd, res_f q⟩
  have hl : (us ++ ds).length = ps.length := by rw [<- r2.length]; exact F.len _ _ _ _ hsp
  refine wpAny_call (codeAny_mono (F.run X.A X.stack s H ⟨us, []⟩ (us ++ ds) (vs ++ dvs) Q _ hr I.env0 (hb s us I.kIn hl) r2 hsp) fun r s' hq => ?_)
  cases r with
  | error er => exact tk er s' (L2N.XE.of_call I (fun _ _ _ z => z) hq)
  | ok fl =>
    cases fl with
    | ret u => exact I.after hq
    | next => exact False.elim hq
    | brk => exact False.elim hq
    | cont => exact False.elim hq
def mCall (mf : FM) (dws : List W) (as : AM) : EM := fun me h => (as me h).bind fun ws h => mf (ws ++ dws) h
theorem me_call (F : FnOk X.prog X.w X.K X.mg X.base (L2N.CX X.prog X.w) k f fd ps (spM (kt X adr) mf)) (hr : Room k X.A) (hg : Gl X x) (hm : X.mg x = some (.ref f)) (hk : PySem.W.keepIn X.K (.ref f) = true) (hb : Binds X.K fd ps ds) (hd : Dfl X.K dws ds) (tk : L2N.Takes X Y)
    (ha : MA X adr Y (e :: es) as) (hdb : (x == ("__debug__" : Str)) = false) (he : starEach (e :: es) X.env = (false, eval e X.env) :: starEach es X.env) (hpl : (backTo pos (starEach es X.env)).any (·.1) = false) :
    ME X adr Y (.Call (.Name x p) (e :: es) [] pos) (mCall mf dws as) := by
  refine ⟨fun pins s σ H Q I ⟨T, me, h, hR, hE, q⟩ => ?_⟩
  refine wpAny_Call_Name_kw (ld_glob I hg hm ?_ hdb)
  refine PySem.W.callWith_K (h₀ := X.base) I.ok.mod.kin hk (thn (ha.run pos pins s σ H (fun vs H1 => ∃ T1 h1 ws, Hrel (kt X adr) T1 h1 H1 /\ Reps (kt X adr) T1 H1 ws vs /\ ResV (kt X adr) Y T1 H1 σ (mf (ws ++ dws) h1) Q) I
    ⟨T, me, h, hR, hE, Res.bind q fun ws h1 _ T1 H1 vs hr1 x1 rp q1 => ⟨T1, h1, ws, hr1, rp, q1⟩⟩) fun us s1 ⟨vs, H1, I1, r, T1, h1, ws, hr1, rp, q1⟩ => ⟨I1.kIn, ?_⟩) he hpl
  exact run_m F hr hb hd tk I1 r hr1 rp q1
def strEq (a b : Str) : Bool := go a.cps.toList b.cps.toList
where
  go : List Nat -> List Nat -> Bool
  | [], [] => true
  | x :: r, y :: s => match Nat.beq x y with
    | true => go r s
    | false => false
  | _, _ => false
theorem strEq_go : ∀ a b : List Nat, strEq.go a b = decide (a = b)
  | [], [] => by simp [strEq.go]
  | [], _ :: _ => by simp [strEq.go]
  | _ :: _, [] => by simp [strEq.go]
  | x :: r, y :: s => by
    unfold strEq.go
    cases h : Nat.beq x y with
    | true =>
      have e : x = y := Nat.eq_of_beq_eq_true h
      subst e
      simp [strEq_go r s]
    | false =>
      have e : x ≠ y := fun z => by subst z; rw [Nat.beq_refl] at h; cases h
      simp [e]
theorem strEq_iff {a b : Str} : strEq a b = true ↔ a = b := by
  unfold strEq
  rw [strEq_go, decide_eq_true_iff]
  constructor
  · intro h
    obtain ⟨⟨x⟩⟩ := a
    obtain ⟨⟨y⟩⟩ := b
    simp only at h
    rw [h]
  · intro h; rw [h]
theorem strEq_eq {a b : Str} : strEq a b = decide (a = b) := by
  cases h : strEq a b with
  | true => rw [strEq_iff.mp h]; simp
  | false =>
    have : a ≠ b := fun e => by rw [strEq_iff.mpr e] at h; cases h
    simp [this]
def getF (f : Str) : List Str -> List W -> Option W
  | g :: fn, w :: fv => match strEq f g with
    | true => some w
    | false => getF f fn fv
  | _, _ => none
def putFn (f : Str) : List Str -> List Str
  | [] => [f]
  | g :: fn => match strEq g f with
    | true => g :: fn
    | false => g :: putFn f fn
def putFv (f : Str) (w : W) : List Str -> List W -> List W
  | g :: fn, x :: fv => match strEq g f with
    | true => w :: fv
    | false => x :: putFv f w fn fv
  | _, _ => [w]
def insOf (w : W) (h : MH) : Option (Nat × List Str × List W) := match w with
  | .ins c fn fv => some (c, fn, fv)
  | .ref n => match h.get n with
    | some (.ins c fn fv) => some (c, fn, fv)
    | _ => none
  | _ => none
theorem getF_zip {T : Tie} {H : Hp} {f : Str} {w : W} : ∀ {fn : List Str} {fv : List W} {vv : List V}, Reps G T H fv vv -> getF f fn fv = some w -> ∃ v, (fn.zip vv).lookup f = some v /\ Rep G T H w v
  | [], _, _, _, e => by unfold getF at e; cases e
  | _ :: _, [], _, _, e => by unfold getF at e; cases e
  | g :: fn, y :: fv, vv, r, e => by
    unfold Reps at r
    obtain ⟨v, s, rfl, h1, h2⟩ := r
    unfold getF at e
    cases q : strEq f g with
    | true =>
      rw [q] at e
      cases e
      have : f = g := strEq_iff.mp q
      subst this
      exact ⟨v, by simp [List.lookup], h1⟩
    | false =>
      rw [q] at e
      have ne : (f == g) = false := beq_eq_false_iff_ne.mpr fun z => by rw [strEq_iff.mpr z] at q; cases q
      obtain ⟨u, e1, r1⟩ := getF_zip h2 e
      exact ⟨u, by simp only [List.zip_cons_cons, List.lookup, ne]; exact e1, r1⟩
theorem insOf_at {T : Tie} {h : MH} {H : Hp} {w : W} {v : V} {c : Nat} {fn : List Str} {fv : List W} (hr : Hrel G T h H) (rp : Rep G T H w v) (e : insOf w h = some (c, fn, fv)) :
    ∃ a dx vv, v = .ref a /\ H a = some (.ins (G.adr c) dx (fn.zip vv)) /\ fn.length = vv.length /\ Reps G T H fv vv := by
  cases w with
  | ins c' fn' fv' =>
    cases e
    unfold Rep at rp
    obtain ⟨a, dx, vv, e1, _, _, e2, _, l, r⟩ := rp
    exact ⟨a, dx, vv, e1, e2, l, r⟩
  | ref n =>
    unfold insOf at e
    cases q : h.get n with
    | none => simp only [q] at e; cases e
    | some o =>
      simp only [q] at e
      cases o with
      | ins c' fn' fv' =>
        cases e
        obtain ⟨a, e1, dx, vv, _, e2, _, l, r⟩ := hr.obj n _ q
        unfold Rep at rp
        exact ⟨a, dx, vv, rp.2 a e1, e2, l, r⟩
      | _ => cases e
  | _ => cases e
def memN (c : Nat) : List Nat -> Bool
  | [] => false
  | x :: r => match Nat.beq c x with
    | true => true
    | false => memN c r
theorem memN_mem {c : Nat} : ∀ {l : List Nat}, memN c l = true -> c ∈ l
  | x :: r, h => by
    unfold memN at h
    cases q : Nat.beq c x with
    | true => rw [Nat.eq_of_beq_eq_true q]; exact List.mem_cons_self
    | false => rw [q] at h; exact List.mem_cons_of_mem _ (memN_mem h)
def mFld (cs : List Nat) (f : Str) (m : EM) : EM := fun me h => (m me h).bind fun w h => match insOf w h with
  | some (c, fn, fv) => match memN c cs with
    | true => ofO (getF f fn fv) h
    | false => .stuck
  | none => .stuck
theorem me_fld {fl : Str} {cs : List Nat} (he : ME X adr Y e mo) (hc : ∀ c ∈ cs, Cls X.K (adr c) /\ NoAttr X.K (adr c) fl) (hb : attributeBase e fl X.env (eval e X.env) = eval e X.env) : ME X adr Y (.Attribute e fl pos) (mFld cs fl mo) :=
  pe_imp (pe_fld he hb) fun σ H Q ⟨T, me, h, hr, hE, q⟩ => ⟨T, me, h, hr, hE, Res.bind q fun w h1 _ T1 H1 v hr1 x1 rp q1 => by
    cases ei : insOf w h1 with
    | none => simp only [ei] at q1; exact q1.elim
    | some t =>
      obtain ⟨c, fn, fv⟩ := t
      simp only [ei] at q1
      cases em : memN c cs with
      | false => simp only [em] at q1; exact q1.elim
      | true =>
        simp only [em] at q1
        obtain ⟨a, dx, vv, rfl, e2, l, r⟩ := insOf_at hr1 rp ei
        obtain ⟨c1, c2⟩ := hc c (memN_mem em)
        cases eg : getF fl fn fv with
        | none => rw [eg] at q1; exact q1.elim
        | some u =>
          rw [eg] at q1
          obtain ⟨v2, e3, r2⟩ := getF_zip r eg
          exact ⟨a, _, dx, _, v2, rfl, e2, c1, c2, e3, q1 T1 H1 v2 hr1 (Ex.rfl' hr1.ok) r2⟩⟩
def mProp (c : Nat) (mf : FM) (m : EM) : EM := fun me h => (m me h).bind fun w h => match insOf w h with
  | some (c', _, _) => match Nat.beq c' c with
    | true => (mf [w] h).nox
    | false => .stuck
  | none => .stuck
theorem resF_nox {T : Tie} {H : Hp} {σ : Sl} {r : R W} {Q : VK} {E : XK} (q : ResV G Y T H σ r.nox Q) : ResF G T H r Q E := by
  cases r with
  | ok w h => exact q
  | exc x h => exact q.elim
  | stuck => exact q.elim
theorem me_prop {fl : Str} {c : Nat} {pa : Addr} (he : ME X adr Y e mo) (hc : Cls X.K (adr c)) (hp : PropOf X.K (adr c) fl pa f) (F : FnOk X.prog X.w X.K X.mg X.base (L2N.CX X.prog X.w) k f fd ps (spM (kt X adr) mf)) (hr : Room (k + 1) X.A) (hb : Binds X.K fd ps [])
    (hab : attributeBase e fl X.env (eval e X.env) = eval e X.env) : ME X adr Y (.Attribute e fl pos) (mProp c mf mo) :=
  pe_imp (pe_prop (dvs := []) (E := E0) he hc hp F hr hb .nil passLN hab) fun σ H Q ⟨T, me, h, hR, hE, q⟩ => ⟨T, me, h, hR, hE, Res.bind q fun w h1 _ T1 H1 v hr1 x1 rp q1 => by
    cases ei : insOf w h1 with
    | none => simp only [ei] at q1; exact q1.elim
    | some t =>
      obtain ⟨c', fn, fv⟩ := t
      simp only [ei] at q1
      cases em : Nat.beq c' c with
      | false => simp only [em] at q1; exact q1.elim
      | true =>
        simp only [em] at q1
        have ec : c' = c := Nat.eq_of_beq_eq_true em
        subst ec
        obtain ⟨a, dx, vv, rfl, e2, l, r⟩ := insOf_at hr1 rp ei
        exact ⟨a, dx, _, rfl, e2, T1, [w], h1, hr1, Reps.cons rp Reps.nil, resF_nox q1⟩⟩
def sFldM (cs : List Nat) (f : Str) (mo mv : EM) : SM := fun me h => .ofE me (mv me h) fun w h => .ofE me (mo me h) fun u h => match u with
  | .ref n => match h.get n with
    | some (.ins c fn fv) => match memN c cs, Nat.blt fn.length 900 with
      | true, true => .nx me (h.set n (.ins c (putFn f fn) (putFv f w fn fv)))
      | _, _ => .stuck
    | _ => .stuck
  | _ => .stuck
theorem putFn_zip {T : Tie} {H : Hp} {f : Str} {w : W} {v : V} (rw : Rep G T H w v) : ∀ {fn : List Str} {fv : List W} {vv : List V}, fn.length = vv.length -> Reps G T H fv vv -> ∃ vv', (putFn f fn).zip vv' = putF f v (fn.zip vv) /\ (putFn f fn).length = vv'.length /\ Reps G T H (putFv f w fn fv) vv'
  | [], fv, vv, l, r => by
    cases vv with
    | nil =>
      cases fv with
      | nil => exact ⟨[v], rfl, rfl, by unfold putFv; exact Reps.cons rw Reps.nil⟩
      | cons _ _ => have := r.length; simp at this
    | cons _ _ => simp at l
  | g :: fn, fv, vv, l, r => by
    cases fv with
    | nil => have := r.length; rw [<- this] at l; simp at l
    | cons y fv =>
      unfold Reps at r
      obtain ⟨u, s, rfl, h1, h2⟩ := r
      unfold putFn putFv
      cases q : strEq g f with
      | true =>
        have e : g = f := strEq_iff.mp q
        refine ⟨v :: s, ?_, by simpa using l, Reps.cons rw h2⟩
        show (g, v) :: fn.zip s = putF f v ((g, u) :: fn.zip s)
        unfold putF
        rw [if_pos e]
      | false =>
        have e : ¬ g = f := fun z => by rw [strEq_iff.mpr z] at q; cases q
        obtain ⟨vv', z1, z2, z3⟩ := putFn_zip rw (f := f) (by simpa using l) h2
        refine ⟨u :: vv', ?_, by simp [z2], Reps.cons h1 z3⟩
        show (g, u) :: (putFn f fn).zip vv' = putF f v ((g, u) :: fn.zip s)
        unfold putF
        rw [if_neg e, z1]
end
end Mi
end
section
namespace Mi
open PySem PySem.Spec PyProof.Rows L2
variable {G : Kt} {X : Cx} {adr : Ad} {Y : WX}
theorem get_set_same {h : MH} {n : Nat} {o u : O} (e : h.get n = some u) : (h.set n o).get n = some o := lookN_set_same e
theorem get_set_other {h : MH} {n k : Nat} {o : O} (ne : k ≠ n) : (h.set n o).get k = h.get k := lookN_set_other ne
theorem get_del_same {h : MH} {n : Nat} : (h.del n).get n = none := lookN_del_same
theorem get_del_other {h : MH} {n k : Nat} (ne : k ≠ n) : (h.del n).get k = h.get k := lookN_del_other ne
theorem get_new_same {h : MH} {o : O} : (h.new o).get h.nx = some o := by
  unfold MH.get MH.new lookN
  rw [Nat.beq_refl]
theorem get_new_other {h : MH} {o : O} {k : Nat} (ne : k ≠ h.nx) : (h.new o).get k = h.get k := by
  show lookN k ((h.nx, o) :: h.l) = lookN k h.l
  conv => lhs; unfold lookN
  cases q : Nat.beq k h.nx with
  | true => exact absurd (Nat.eq_of_beq_eq_true q) ne
  | false => rfl
section
variable {T : Tie} {h : MH} {H : Hp} {n : Nat} {a : Addr} {o : O} {ho : HO}
theorem reps_upd (ok : T.Ok H) (ea : T.ρ n = some a) {ws : List W} {vs : List V} (r : Reps G T H ws vs) : Reps G T (upd H a ho) ws vs :=
  reps_as (Nat.le_refl _) (fun b u e f => ⟨f, by rw [upd_ne (fun z => f.own n (by rw [z]; exact ea))]; exact e⟩) (fun _ _ _ e => e) _ _ r
theorem box_set {o0 : O} (hr : Hrel G T h H) (e0 : h.get n = some o0) (ea : T.ρ n = some a) (new : RepO G T (upd H a ho) o a) : Hrel G T (h.set n o) (upd H a ho) /\ Ex T T H (upd H a ho) := by
  have ok := hr.ok
  have hf : ∀ b u, H b = some u -> Fz T b -> Fz T b /\ upd H a ho b = some u := fun b u e f => ⟨f, by rw [upd_ne (fun z => f.own n (by rw [z]; exact ea))]; exact e⟩
  have th : ∀ b, H b ≠ none -> upd H a ho b ≠ none := fun b e => by
    by_cases z : b = a
    · subst z; rw [upd_same]; simp
    · rw [upd_ne z]; exact e
  have x : Ex T T H (upd H a ho) := Ex.mk' (Nat.le_refl _) (fun _ _ => .inl rfl) (fun m b hm e => absurd (ok.lt m b e) (Nat.not_lt.mpr hm)) (fun b u e f => (hf b u e f).2) th (fun _ e => e) (fun _ e => .inl e) (fun b e => upd_ne fun z => ok.hid n a ea (by rw [<- z]; exact e))
  refine ⟨⟨⟨ok.lt, ok.inj, fun m b e => th b (ok.there m b e), ok.hid, fun b e => th b (ok.hidT b e)⟩, hr.nx, fun m u e => ?_, fun p hp => x.tb _ _ (hr.tb p hp)⟩, x⟩
  by_cases hm : m = n
  · subst hm
    rw [get_set_same e0] at e
    cases e
    exact ⟨a, ea, new⟩
  · rw [get_set_other hm] at e
    obtain ⟨b, e1, r⟩ := hr.obj m u e
    have ne : b ≠ a := fun z => hm (ok.inj m n a (by rw [<- z]; exact e1) ea)
    exact ⟨b, e1, r.as (Nat.le_refl _) hf (fun _ _ _ e => e) fun u e => by rw [upd_ne ne]; exact e⟩
abbrev Tie.add (T : Tie) (p : Addr) : Tie := { T with ρ := fun m => if m = T.nx then some p else T.ρ m, nx := T.nx + 1 }
theorem box_new {p : Addr} (hr : Hrel G T h H) (hp : H p = none) (new : (∀ ws vs, Reps G T H ws vs -> Reps G (T.add p) (upd H p ho) ws vs) -> RepO G (T.add p) (upd H p ho) o p) : Hrel G (T.add p) (h.new o) (upd H p ho) /\ Ex T (T.add p) H (upd H p ho) /\ Rep G (T.add p) (upd H p ho) (.ref h.nx) (.ref p) := by
  have ok := hr.ok
  have nx := hr.nx
  have ne' : ∀ {b}, H b ≠ none -> b ≠ p := fun {b} e z => by rw [z] at e; exact e hp
  have ne : ∀ {b u}, H b = some u -> b ≠ p := fun {b u} e => ne' (by rw [e]; simp)
  have hf : ∀ b u, H b = some u -> Fz T b -> Fz (T.add p) b /\ upd H p ho b = some u := fun b u e f => by
    refine ⟨⟨fun m z => ?_, f.hid⟩, by rw [upd_ne (ne e)]; exact e⟩
    by_cases hm : m = T.nx
    · simp only [hm, if_true] at z
      exact ne e (Option.some.inj z).symm
    · simp only [hm, if_false] at z
      exact f.own m z
  have hρ : ∀ m b, m < T.nx -> (T.add p).ρ m = some b -> T.ρ m = some b := fun m b hm z => by
    have : m ≠ T.nx := by omega
    simp only [this, if_false] at z
    exact z
  have th : ∀ b, H b ≠ none -> upd H p ho b ≠ none := fun b e => by rw [upd_ne (ne' e)]; exact e
  refine ⟨⟨⟨fun m b e => ?_, fun m m' b e e' => ?_, fun m b e => ?_, fun m b e => ?_, fun b e => th b (ok.hidT b e)⟩, by show T.nx + 1 = h.nx + 1; rw [nx], fun m u e => ?_, fun q hq => (hr.tb q hq).to id (fun ps _ e => by rw [upd_ne (ne e)]; exact e) fun c n e => hf c _ e n⟩, Ex.mk' (Nat.le_succ _) (fun m hm => .inl ?_) (fun m b hm e => ?_) (fun b u e f => (hf b u e f).2) th (fun _ e => e) (fun _ e => .inl e) (fun b e => upd_ne (ne' (ok.hidT b e))), ?_⟩
  · show m < T.nx + 1
    by_cases hm : m = T.nx
    · omega
    · simp only [hm, if_false] at e
      have := ok.lt m b e
      omega
  · by_cases hm : m = T.nx <;> by_cases hm' : m' = T.nx
    · rw [hm, hm']
    · simp only [hm, if_true] at e
      simp only [hm', if_false] at e'
      cases e
      exact absurd hp (ok.there m' _ e')
    · simp only [hm, if_false] at e
      simp only [hm', if_true] at e'
      cases e'
      exact absurd hp (ok.there m _ e)
    · simp only [hm, if_false] at e
      simp only [hm', if_false] at e'
      exact ok.inj m m' b e e'
  · by_cases hm : m = T.nx
    · simp only [hm, if_true] at e
      cases e
      rw [upd_same]; simp
    · simp only [hm, if_false] at e
      exact th b (ok.there m b e)
  · by_cases hm : m = T.nx
    · simp only [hm, if_true] at e
      cases e
      exact fun z => ok.hidT _ z hp
    · simp only [hm, if_false] at e
      exact ok.hid m b e
  · by_cases hm : m = h.nx
    · subst hm
      rw [get_new_same] at e
      cases e
      refine ⟨p, by simp [nx], new fun ws vs r => reps_as (show T.nx <= (T.add p).nx from Nat.le_succ _) hf hρ _ _ r⟩
    · rw [get_new_other hm] at e
      obtain ⟨b, e1, r⟩ := hr.obj m u e
      refine ⟨b, ?_, r.as (show T.nx <= (T.add p).nx from Nat.le_succ _) hf hρ fun u e => by rw [upd_ne (ne e)]; exact e⟩
      have : m ≠ T.nx := by rw [nx]; exact hm
      simp only [this, if_false]
      exact e1
  · have : m ≠ T.nx := by omega
    simp only [this, if_false]
  · by_cases h2 : m = T.nx
    · simp only [h2, if_true] at e
      cases e
      exact hp
    · simp only [h2, if_false] at e
      have := ok.lt m b e
      omega
  · unfold Rep
    refine ⟨by show h.nx < T.nx + 1; omega, fun b e => ?_⟩
    simp only [nx.symm, if_true] at e
    rw [Option.some.inj e]
def O.toW : O -> W
  | .lst ws => .lst ws
  | .dct ks vs => .dct ks vs
  | .ins c fn fv => .ins c fn fv
abbrev Tie.drop (T : Tie) (n : Nat) : Tie := { T with ρ := fun m => if m = n then none else T.ρ m }
theorem freeze {v : V} (hr : Hrel G T h H) (e0 : h.get n = some o) (rv : Rep G T H (.ref n) v) : Hrel G (T.drop n) (h.del n) H /\ Ex T (T.drop n) H H /\ Rep G (T.drop n) H o.toW v := by
  have ok := hr.ok
  obtain ⟨a, ea, ro⟩ := hr.obj n o e0
  unfold Rep at rv
  have ev := rv.2 a ea
  have hf : ∀ b u, H b = some u -> Fz T b -> Fz (T.drop n) b /\ H b = some u := fun b u e f => ⟨⟨fun m z => by
    by_cases hm : m = n
    · simp only [hm, if_true] at z; cases z
    · simp only [hm, if_false] at z; exact f.own m z, f.hid⟩, e⟩
  have sub : ∀ m b, (T.drop n).ρ m = some b -> T.ρ m = some b /\ m ≠ n := fun m b z => by
    by_cases hm : m = n
    · simp only [hm, if_true] at z; cases z
    · simp only [hm, if_false] at z; exact ⟨z, hm⟩
  have fa : Fz (T.drop n) a := ⟨fun m z => by
    obtain ⟨z1, z2⟩ := sub m a z
    exact z2 (ok.inj m n a z1 ea), ok.hid n a ea⟩
  refine ⟨⟨⟨fun m b e => ok.lt m b (sub m b e).1, fun m m' b e e' => ok.inj m m' b (sub m b e).1 (sub m' b e').1, fun m b e => ok.there m b (sub m b e).1, fun m b e => ok.hid m b (sub m b e).1, ok.hidT⟩, hr.nx, fun m u e => ?_, fun q hq => (hr.tb q hq).to id (fun ps _ e => e) fun c n e => hf c _ e n⟩,
    Ex.mk' (Nat.le_refl _) (fun m hm => ?_) (fun m b hm e => absurd (ok.lt m b (sub m b e).1) (Nat.not_lt.mpr hm)) (fun _ _ e _ => e) (fun _ e => e) (fun _ e => e) (fun _ e => .inl e) (fun _ _ => rfl), ?_⟩
  · by_cases hm : m = n
    · subst hm; rw [get_del_same] at e; cases e
    · rw [get_del_other hm] at e
      obtain ⟨b, e1, r⟩ := hr.obj m u e
      exact ⟨b, by simp only [hm, if_false]; exact e1, r.as (show T.nx <= (T.drop n).nx from Nat.le_refl _) hf (fun m b _ e => (sub m b e).1) fun _ e => e⟩
  · by_cases h2 : m = n
    · exact .inr (by simp [h2])
    · exact .inl (by simp [h2])
  · subst ev
    have rr : ∀ {ws : List W} {vs : List V}, Reps G T H ws vs -> Reps G (T.drop n) H ws vs := fun r => reps_as (show T.nx <= (T.drop n).nx from Nat.le_refl _) hf (fun m b _ e => (sub m b e).1) _ _ r
    cases o with
    | lst ws =>
      obtain ⟨vs, e1, r⟩ := ro
      unfold O.toW Rep
      exact ⟨a, vs, rfl, fa, e1, rr r⟩
    | dct ks vs =>
      obtain ⟨o, kv, vv, sm, ko, e1, d, r1, r2⟩ := ro
      unfold O.toW Rep
      exact ⟨a, o, kv, vv, rfl, fa, sm, ko, e1, d, rr r1, rr r2⟩
    | ins c fn fv =>
      obtain ⟨dx, vv, f, e1, e2, l, r⟩ := ro
      unfold O.toW Rep
      exact ⟨a, dx, vv, rfl, fa, (hf dx _ e2 f).1, e1, e2, l, rr r⟩
end
section
variable {o value : Expr} {mo mv : EM} {fl : Str} {cs : List Nat} {pos pos' : Pos}
theorem ms_fld (ha : ME X adr Y o mo) (hv : ME X adr Y value mv) (hc : ∀ c ∈ cs, Cls X.K (adr c) /\ NoAttr X.K (adr c) fl) (hs : swapsWith value (some (.Attribute o fl pos')) pos.line X.env = pure false) : MS X adr Y (.Assign [.Attribute o fl pos'] value pos) (sFldM cs fl mo mv) :=
  ps_imp (ps_fld ha hv hs) fun D σ H ⟨T, me, h, hr, hE, q⟩ => ⟨T, me, h, hr, hE, ResS.bindE hE q fun w h1 _ T1 H1 v hr1 x1 rp e1 q1 =>
    ⟨T1, me, h1, hr1, e1, ResS.bindE e1 q1 fun u h2 _ T2 H2 v2 hr2 x2 rp2 e2 q2 => by
      cases u with
      | ref n =>
        dsimp only at q2
        cases eg : h2.get n with
        | none => simp only [eg] at q2; exact q2.elim
        | some ob =>
          simp only [eg] at q2
          cases ob with
          | ins c fn fv =>
            dsimp only at q2
            cases em : memN c cs with
            | false => simp only [em] at q2; exact q2.elim
            | true =>
              cases el : Nat.blt fn.length 900 with
              | false => simp only [em, el] at q2; exact q2.elim
              | true =>
                simp only [em, el] at q2
                obtain ⟨a, ea, dx, vv, f, e3, e4, l, r⟩ := hr2.obj n _ eg
                unfold Rep at rp2
                have ev := rp2.2 a ea
                obtain ⟨c1, c2⟩ := hc c (memN_mem em)
                have ll : fn.length < 900 := Nat.le_of_ble_eq_true el
                refine ⟨a, _, dx, _, ev, e3, c1, c2, ?_, ?_⟩
                · rw [List.length_zip]
                  omega
                · obtain ⟨vv', z1, z2, z3⟩ := putFn_zip (f := fl) (rep_ex x2 _ _ rp) l r
                  have adx : dx ≠ a := fun z => f.own n (by rw [z]; exact ea)
                  obtain ⟨hr3, x3⟩ := box_set (ho := .ins ((kt X adr).adr c) dx (putF fl v (fn.zip vv))) (o := .ins c (putFn fl fn) (putFv fl w fn fv)) hr2 eg ea
                    ⟨dx, vv', f, by rw [upd_same, z1], by rw [upd_ne adx]; exact e4, z2, reps_upd hr2.ok ea z3⟩
                  exact q2 T2 _ σ hr3 x3 (e2.ex x3)
          | _ => exact q2.elim
      | _ => exact q2.elim⟩⟩
end
section
variable {k : Nat} {f : Addr} {fd : FuncData} {ps : List Str} {mf : FM} {dws : List W} {ds : List Value} {x : Str} {p pos : Pos} {e : Expr} {es : List Expr} {as : AM}
def mMake (c : Nat) (mf : FM) (dws : List W) (fr : Bool) (as : AM) : EM := fun me h => (as me h).bind fun ws h => (mf (.ref h.nx :: (ws ++ dws)) (h.new (.ins c [] []))).bind fun v h' => match v with
  | .non => match fr with
    | false => .ok (.ref h.nx) h'
    | true => match h'.get h.nx with
      | some o => .ok o.toW (h'.del h.nx)
      | none => .stuck
  | _ => .stuck
theorem run_mk {c : Nat} {fr : Bool} {pins : List (Addr × Obj)} {σ : Sl} {H : Hp} {s : Shared} {Q : VK} {us : List Value} {vs : List V} {T : Tie} {h : MH} {ws : List W} (M : Mk X.K (adr c) f) (F : FnOk X.prog X.w X.K X.mg X.base (L2N.CX X.prog X.w) k f fd ps (spM (kt X adr) mf)) (hr : Room (k + 1) X.A)
    (hb : Binds X.K fd ps ds) (hd : Dfl X.K dws ds) (tk : L2N.Takes X Y) (I : Inv X pins σ H s) (r : Vals vs us) (hR : Hrel (kt X adr) T h H) (rp : Reps (kt X adr) T H ws vs)
    (q : ResV (kt X adr) Y T H σ ((mf (.ref h.nx :: (ws ++ dws)) (h.new (.ins c [] []))).bind fun v h' => match v with
      | .non => match fr with
        | false => .ok (.ref h.nx) h'
        | true => match h'.get h.nx with
          | some o => .ok o.toW (h'.del h.nx)
          | none => .stuck
      | _ => .stuck) Q) : wpAny (model X.prog X.w) X.A (call (.ref (adr c)) us) (EP X pins σ Q) X.xe s := by
  obtain ⟨dvs, rd, rpd⟩ := hd (kt X adr) T H rfl
  have hx : H (s.heap.objs.size + 1) = none := I.hok.fresh (Nat.le_succ _)
  have hdx : H s.heap.objs.size = none := I.hok.fresh (Nat.le_refl _)
  have nxd : s.heap.objs.size ≠ s.heap.objs.size + 1 := Nat.ne_of_lt (Nat.lt_succ_self _)
  have g1 : Grow H (upd H s.heap.objs.size (.own (s.heap.objs.size + 1))) := Grow.laid hdx
  have hR1 := hR.grow g1
  have x1 := Ex.grow hR.ok g1
  have hx1 : upd H s.heap.objs.size (.own (s.heap.objs.size + 1)) (s.heap.objs.size + 1) = none := by rw [upd_ne (Ne.symm nxd)]; exact hx
  have fdx : Fz (T.add (s.heap.objs.size + 1)) s.heap.objs.size := ⟨fun m z => by
    by_cases hm : m = T.nx
    · simp only [hm, if_true] at z
      exact nxd (Option.some.inj z).symm
    · simp only [hm, if_false] at z
      exact hR.ok.there m _ z hdx, fun z => hR.ok.hidT _ z hdx⟩
  obtain ⟨hR2, x2, r2⟩ := box_new (o := .ins c [] []) (ho := .ins (adr c) s.heap.objs.size []) hR1 hx1 fun _ => ⟨s.heap.objs.size, [], fdx, upd_same, by rw [upd_ne nxd, upd_same], rfl, Reps.nil⟩
  have x12 := x1.trans x2
  have I2 := Inv.made (C := adr c) I
  have hsp : spM (kt X adr) mf (.ref (s.heap.objs.size + 1) :: (vs ++ dvs)) (upd (upd H s.heap.objs.size (.own (s.heap.objs.size + 1))) (s.heap.objs.size + 1) (.ins (adr c) s.heap.objs.size []))
      (fun v H2 => v = .non /\ Q (.ref (s.heap.objs.size + 1)) H2) (fun cls d H' => Y cls d σ H') := by
    refine ⟨T.add (s.heap.objs.size + 1), .ref h.nx :: (ws ++ dws), h.new (.ins c [] []), hR2, Reps.cons r2 (reps_ex x12 _ _ (rp.append rpd)), ?_⟩
    have q' := Res.ex q x12
    cases em : mf (.ref h.nx :: (ws ++ dws)) (h.new (.ins c [] [])) with
    | ok v h' =>
      rw [em] at q'
      intro T' H' v' hr' x' rp'
      cases v with
      | non =>
        unfold Rep at rp'
        refine ⟨rp', ?_⟩
        have r3 := rep_ex x' _ _ r2
        cases fr with
        | false => exact q' T' H' _ hr' x' r3
        | true =>
          have q' : ResV (kt X adr) Y _ _ σ (match h'.get h.nx with
            | some o => .ok o.toW (h'.del h.nx)
            | none => .stuck) Q := q'
          cases eg : h'.get h.nx with
          | none => rw [eg] at q'; exact q'.elim
          | some o =>
            rw [eg] at q'
            obtain ⟨hr4, x4, r4⟩ := freeze hr' eg r3
            exact q' _ _ _ hr4 (x'.trans x4) r4
      | _ => exact q'.elim
    | exc x h' => rw [em] at q'; exact q'
    | stuck => rw [em] at q'; exact q'.elim
  have rr : Vals (V.ref (s.heap.objs.size + 1) :: (vs ++ dvs)) (Value.ref (s.heap.objs.size + 1) :: (us ++ ds)) := .cons rfl (r.append rd)
  have hl : (Value.ref (s.heap.objs.size + 1) :: us ++ ds).length = ps.length := by
    have e := rr.length
    rw [F.len _ _ _ _ hsp] at e
    exact e.symm
  refine wpAny_call (make_map (f := f) I.kIn M.makes M.init (beq_iff_eq.mp M.fn) (codeAny_mono (F.run _ X.stack _ _ ⟨Value.ref (s.heap.objs.size + 1) :: us, []⟩ (Value.ref (s.heap.objs.size + 1) :: (us ++ ds)) _ _ _ (hr.make (adr c) us [])
    (I2.env0.make (adr c) us []) (hb _ (Value.ref (s.heap.objs.size + 1) :: us) I2.kIn hl) rr hsp) fun r s' hq' => ?_))
  cases r with
  | error e => exact tk e s' (L2N.XE.of_call I2 (fun _ _ _ z => z) hq')
  | ok fl =>
    cases fl with
    | ret u =>
      obtain ⟨v, H', I3, rv, ev, q3⟩ := I2.after hq'
      subst ev
      exact ⟨rv, ⟨V.ref (s.heap.objs.size + 1), H', I3, rfl, q3⟩⟩
    | next => exact False.elim hq'
    | brk => exact False.elim hq'
    | cont => exact False.elim hq'
theorem me_make {c : Nat} {fr : Bool} (M : Mk X.K (adr c) f) (F : FnOk X.prog X.w X.K X.mg X.base (L2N.CX X.prog X.w) k f fd ps (spM (kt X adr) mf)) (hr : Room (k + 1) X.A) (hg : Gl X x) (hm : X.mg x = some (.ref (adr c))) (hb : Binds X.K fd ps ds) (hd : Dfl X.K dws ds) (tk : L2N.Takes X Y)
    (ha : MA X adr Y (e :: es) as) (hdb : (x == ("__debug__" : Str)) = false) (he : starEach (e :: es) X.env = (false, eval e X.env) :: starEach es X.env) (hpl : (backTo pos (starEach es X.env)).any (·.1) = false) :
    ME X adr Y (.Call (.Name x p) (e :: es) [] pos) (mMake c mf dws fr as) := by
  refine ⟨fun pins s σ H Q I ⟨T, me, h, hR, hE, q⟩ => ?_⟩
  refine wpAny_Call_Name_kw (ld_glob I hg hm ?_ hdb)
  refine PySem.W.callWith_K (h₀ := X.base) I.ok.mod.kin M.kp (thn (ha.run pos pins s σ H (fun vs H1 => ∃ T1 h1 ws, Hrel (kt X adr) T1 h1 H1 /\ Reps (kt X adr) T1 H1 ws vs /\ ResV (kt X adr) Y T1 H1 σ _ Q) I
    ⟨T, me, h, hR, hE, Res.bind q fun ws h1 _ T1 H1 vs hr1 x1 rp q1 => ⟨T1, h1, ws, hr1, rp, q1⟩⟩) fun us s1 ⟨vs, H1, I1, r, T1, h1, ws, hr1, rp, q1⟩ => ⟨I1.kIn, ?_⟩) he hpl
  exact run_mk M F hr hb hd tk I1 r hr1 rp q1
end
end Mi
end
section
namespace Mi
open PySem PySem.Spec PyProof.Rows L2
variable {G : Kt} {X : Cx} {adr : Ad} {Y : WX}
def Kn (P : Program) (w : World) (K : PySem.W.Frag) (H : Hp) (φ : Heap -> Prop) : Prop := ∀ (h : Heap), HOk P w H h -> φ h
def Jp (n : Nat) (Kn : Hp -> Prop) (Pr : Nat -> Hp -> V -> V -> Prop) : It :=
  ⟨fun i H => i < n /\ Kn H, fun i H x H' => ∃ T a b, x = .ref T /\ H T = none /\ H' = upd H T (.tup [a, b]) /\ Pr i H a b, fun i H => i = n /\ Kn H⟩
theorem turn_pairs {P : Program} {w : World} {K : PySem.W.Frag} {tg : Expr} {n : Nat} {kn : Hp -> Prop} {Pr : Nat -> Hp -> V -> V -> Prop} {fp : List Addr} {it : Addr} {tn : Nat -> Heap -> Prop} (hm : it ∈ fp)
    (obj : ∀ i h, tn i h -> ∀ b ∈ fp, ∃ o, h.get? b = some o /\ ∀ v, o.data ≠ .cell v) (keep : ∀ i h h', tn i h -> (∀ b ∈ fp, ∀ o, h.get? b = some o -> h'.get? b = some o) -> tn i h')
    (step : ∀ (A : Around) (H : Hp) (h : Heap) i, A.handled = none -> HOk P w H h -> K.In h -> kn H -> tn i h -> i <= n -> ∃ (St : Nat -> Heap -> Prop) (Pw : Nat -> Value -> Value -> Prop) (fpS wr : List Addr),
      GoesN P w A tg it fpS wr n (fun i h₀ v h => ∃ T x y, v = .ref T /\ h₀.objs.size <= T /\ Pw i x y /\ h.IsTuple T #[x, y]) St /\ St i h /\ (∀ b ∈ wr, b ∈ fp) /\ (∀ j h', St j h' -> tn j h') /\ ∀ i x y, Pw i x y -> ∃ a b, RelV a x /\ RelV b y /\ Pr i H a b)
    (self : ∀ (A : Around) (i : Nat) (s : Shared) (Q : Value -> Shared -> Prop) (E : Value -> Shared -> Prop), tn i s.heap -> Q (.ref it) s -> wpAny (model P w) A (pyIter (.ref it)) Q E s) : Turn P w K tg (Jp n kn Pr) fp it tn where
  mem := hm
  obj := obj
  keep := keep
  item := by
    intro X hP hw hK hc i pins s σ H E I hf st hg
    subst hP hw hK
    obtain ⟨hi, hk⟩ := hg
    obtain ⟨St, Pw, fpS, wr, W, hst, hwr, htn, hPr⟩ := step X.A H s.heap i (I.ok.hd hc) I.hok I.kIn hk st (Nat.le_of_lt hi)
    refine W.goes i s _ _ hi hst fun v h' tk hY st' hkp htk => ?_
    obtain ⟨T, x, y, rfl, hT, hPw, hTup⟩ := hY
    obtain ⟨a, b, ra, rb, hp⟩ := hPr i x y hPw
    have new : ObjOk X.prog X.w (upd H T (.tup [a, b])) h' T (.tup [a, b]) := ⟨by show 2 <= sizeLine; decide, [x, y], .cons ra (.cons rb .nil), hTup⟩
    have I1 : Inv X pins σ (upd H T (.tup [a, b])) { s with heap := h', toks := tk } := I.turnedNew (ch := fp) (fun c o hb q => hkp c o (fun z => hb (hwr c z)) q) hf hT new
    refine ⟨.ref T, _, I1, rfl, ⟨T, a, b, rfl, I.hok.fresh hT, rfl, hp⟩, htn _ _ st', fun c hcm => ?_⟩
    obtain ⟨o, e, _⟩ := obj i s.heap st c hcm
    rw [upd_ne (Nat.ne_of_lt (Nat.lt_of_lt_of_le (Heap.lt_size e) hT))]
    exact (hf c hcm).1
  done := by
    intro X hP hw hK hc i pins s σ H E I hf st hg
    subst hP hw hK
    obtain ⟨hi, hk⟩ := hg
    subst hi
    obtain ⟨St, Pw, fpS, wr, W, hst, hwr, htn, hPr⟩ := step X.A H s.heap i (I.ok.hd hc) I.hok I.kIn hk st (Nat.le_refl _)
    refine W.stops s _ _ hst fun h' tk hkp htk => ?_
    exact I.turnedL (ch := fp) (fun c o hb q => hkp c o (fun z => hb (hwr c z)) q) hf
  self := self
def Js (n : Nat) (Kn : Hp -> Prop) (Pr : Nat -> Hp -> V -> Prop) : It := ⟨fun i H => i < n /\ Kn H, fun i H x H' => H' = H /\ Pr i H x, fun i H => i = n /\ Kn H⟩
theorem turn_single {P : Program} {w : World} {K : PySem.W.Frag} {tg : Expr} {n : Nat} {kn : Hp -> Prop} {Pr : Nat -> Hp -> V -> Prop} {fp : List Addr} {it : Addr} {tn : Nat -> Heap -> Prop} (hm : it ∈ fp)
    (obj : ∀ i h, tn i h -> ∀ b ∈ fp, ∃ o, h.get? b = some o /\ ∀ v, o.data ≠ .cell v) (keep : ∀ i h h', tn i h -> (∀ b ∈ fp, ∀ o, h.get? b = some o -> h'.get? b = some o) -> tn i h')
    (step : ∀ (A : Around) (H : Hp) (h : Heap) i, A.handled = none -> HOk P w H h -> K.In h -> kn H -> tn i h -> i <= n -> ∃ (St : Nat -> Heap -> Prop) (Pw : Nat -> Value -> Prop) (fpS wr : List Addr),
      GoesN P w A tg it fpS wr n (fun i h₀ v h => Pw i v) St /\ St i h /\ (∀ b ∈ wr, b ∈ fp) /\ (∀ j h', St j h' -> tn j h') /\ ∀ i x, Pw i x -> ∃ a, RelV a x /\ Pr i H a)
    (self : ∀ (A : Around) (i : Nat) (s : Shared) (Q : Value -> Shared -> Prop) (E : Value -> Shared -> Prop), tn i s.heap -> Q (.ref it) s -> wpAny (model P w) A (pyIter (.ref it)) Q E s) : Turn P w K tg (Js n kn Pr) fp it tn where
  mem := hm
  obj := obj
  keep := keep
  item := by
    intro X hP hw hK hc i pins s σ H E I hf st hg
    subst hP hw hK
    obtain ⟨hi, hk⟩ := hg
    obtain ⟨St, Pw, fpS, wr, W, hst, hwr, htn, hPr⟩ := step X.A H s.heap i (I.ok.hd hc) I.hok I.kIn hk st (Nat.le_of_lt hi)
    refine W.goes i s _ _ hi hst fun v h' tk hY st' hkp htk => ?_
    obtain ⟨a, ra, hp⟩ := hPr i v hY
    have I1 : Inv X pins σ H { s with heap := h', toks := tk } := I.turnedL (ch := fp) (fun c o hb q => hkp c o (fun z => hb (hwr c z)) q) hf
    exact ⟨a, H, I1, ra, ⟨rfl, hp⟩, htn _ _ st', fun c hcm => (hf c hcm).1⟩
  done := by
    intro X hP hw hK hc i pins s σ H E I hf st hg
    subst hP hw hK
    obtain ⟨hi, hk⟩ := hg
    subst hi
    obtain ⟨St, Pw, fpS, wr, W, hst, hwr, htn, hPr⟩ := step X.A H s.heap i (I.ok.hd hc) I.hok I.kIn hk st (Nat.le_refl _)
    refine W.stops s _ _ hst fun h' tk hkp htk => ?_
    exact I.turnedL (ch := fp) (fun c o hb q => hkp c o (fun z => hb (hwr c z)) q) hf
  self := self
structure Bsrc (P : Program) (w : World) (u : Value) (o : Obj) (It : Addr -> Nat -> Heap -> Prop) (n : Nat) (F : List Addr) (Sr : (Nat -> Value -> Prop) -> Heap -> Prop) : Prop where
  begins : ∀ Pv, Begins u o (Sr Pv)
  start : ∀ h it, h.get? it = some o -> It it 0 h
  at_ : ∀ it i h h', It it i h -> (∀ o, h.get? it = some o -> h'.get? it = some o) -> It it i h'
  cell : ∀ it i h, It it i h -> ∃ o, h.get? it = some o /\ ∀ v, o.data ≠ .cell v
  go : ∀ it i h, It it i h -> ∃ o nm vs, h.get? it = some o /\ o.cls = .type nm /\ o.data = .fields vs /\ ["enumerate", "zip", "dict_itemiterator", "dict_reverseitemiterator", "odict_iterator", "itertools.zip_longest", "itertools.pairwise"].contains nm = false
  walks : ∀ A, A.handled = none -> ∀ Pv it, it ∉ F -> Walks P w A it (it :: F) [it] n Pv (fun i h => It it i h /\ Sr Pv h)
  draws : ∀ A, A.handled = none -> ∀ Pv it, it ∉ F -> Draws P w A it (it :: F) n Pv (fun i h => It it i h /\ Sr Pv h)
  self : ∀ A it i (s : Shared) (Q : Value -> Shared -> Prop) (E : Value -> Shared -> Prop), It it i s.heap -> Q (.ref it) s -> wpAny (model P w) A (pyIter (.ref it)) Q E s
theorem bsrc_list {P : Program} {w : World} (l : Addr) (n : Nat) : Bsrc P w (.ref l) { cls := .type "list_iterator", data := .fields #[.ref l, .int 0 0] } (fun it i h => h.IsListIter it l i) n [l]
    (fun Pv h => ∃ items : Array Value, items.size = n /\ Pv = (fun i v => items[i]? = some v) /\ h.IsList l items) where
  begins := fun Pv => ⟨fun prog w A E s Q ⟨items, _, _, hl⟩ h => wpAny_pyIter_list hl h, fun h h' ⟨items, e1, e2, x⟩ hk => ⟨items, e1, e2, x.at fun o e => hk l o e⟩, rfl⟩
  start := fun h it e => ⟨_, e, rfl, rfl⟩
  at_ := fun it i h h' st k => st.at k
  cell := fun it i h st => by
    obtain ⟨o, e, c, d⟩ := st
    exact ⟨o, e, fun v z => by rw [d] at z; cases z⟩
  self := fun _ _ _ _ _ _ st hQ => wpAny_pyIter_listiter st hQ
  go := fun it i h st => by
    obtain ⟨o, e, c, d⟩ := st
    exact ⟨o, _, _, e, c, d, by decide⟩
  walks := fun A hh Pv it hn => by
    have hne : l ≠ it := fun z => hn (by simp [z])
    refine ⟨fun b hb => by simp at hb ⊢; exact .inl hb, fun i h h' st hk => ⟨st.1.at fun o e => hk it (by simp) o e, let ⟨items, e1, e2, x⟩ := st.2; ⟨items, e1, e2, x.at fun o e => hk l (by simp) o e⟩⟩, fun i s Q E hi st hQ => ?_, fun s Q E st hE => ?_, fun i s Q E st hQ => ?_⟩
    · obtain ⟨h1, items, e1, e2, h2⟩ := st
      subst e2
      exact (Walks.list hh it l hne items).item i s Q E (by rw [e1]; exact hi) ⟨h1, h2⟩ fun x h' tk hp st' sb => hQ x h' tk hp ⟨st'.1, items, e1, rfl, st'.2⟩ sb
    · obtain ⟨h1, items, e1, e2, h2⟩ := st
      subst e1
      exact (Walks.list hh it l hne items).done s Q E ⟨h1, h2⟩ hE
    · obtain ⟨h1, items, e1, e2, h2⟩ := st
      exact (Walks.list hh it l hne items).self i s Q E ⟨h1, h2⟩ hQ
  draws := fun A hh Pv it hn => by
    have hne : l ≠ it := fun z => hn (by simp [z])
    refine ⟨fun i h st => ?_, fun i h h' st hk => ⟨st.1.at fun o e => hk it (by simp) o e, let ⟨items, e1, e2, x⟩ := st.2; ⟨items, e1, e2, x.at fun o e => hk l (by simp) o e⟩⟩, fun i s Q E hi st hQ => ?_, fun s Q E st hE => ?_⟩
    · obtain ⟨o, e, _⟩ := st.1
      exact ⟨o, e⟩
    · obtain ⟨h1, items, e1, e2, h2⟩ := st
      subst e2
      exact (Draws.list hh it l hne items).item i s Q E (by rw [e1]; exact hi) ⟨h1, h2⟩ fun x h' tk hp st' sb => hQ x h' tk hp ⟨st'.1, items, e1, rfl, st'.2⟩ sb
    · obtain ⟨h1, items, e1, e2, h2⟩ := st
      subst e1
      exact (Draws.list hh it l hne items).done s Q E ⟨h1, h2⟩ hE
theorem bsrc_tup {P : Program} {w : World} (l : Addr) (n : Nat) : Bsrc P w (.ref l) { cls := .type "tuple_iterator", data := .fields #[.ref l, .int 0 0] } (fun it i h => h.IsTupleIter it l i) n [l]
    (fun Pv h => ∃ items : Array Value, items.size = n /\ Pv = (fun i v => items[i]? = some v) /\ h.IsTuple l items) where
  begins := fun Pv => ⟨fun prog w A E s Q ⟨items, _, _, hl⟩ h => wpAny_pyIter_tuple hl h, fun h h' ⟨items, e1, e2, x⟩ hk => ⟨items, e1, e2, x.at fun o e => hk l o e⟩, rfl⟩
  start := fun h it e => ⟨_, e, rfl, rfl⟩
  at_ := fun it i h h' st k => st.at k
  cell := fun it i h st => by
    obtain ⟨o, e, c, d⟩ := st
    exact ⟨o, e, fun v z => by rw [d] at z; cases z⟩
  self := fun _ _ _ _ _ _ st hQ => wpAny_pyIter_tupleiter st hQ
  go := fun it i h st => by
    obtain ⟨o, e, c, d⟩ := st
    exact ⟨o, _, _, e, c, d, by decide⟩
  walks := fun A hh Pv it hn => by
    have hne : l ≠ it := fun z => hn (by simp [z])
    refine ⟨fun b hb => by simp at hb ⊢; exact .inl hb, fun i h h' st hk => ⟨st.1.at fun o e => hk it (by simp) o e, let ⟨items, e1, e2, x⟩ := st.2; ⟨items, e1, e2, x.at fun o e => hk l (by simp) o e⟩⟩, fun i s Q E hi st hQ => ?_, fun s Q E st hE => ?_, fun i s Q E st hQ => ?_⟩
    · obtain ⟨h1, items, e1, e2, h2⟩ := st
      subst e2
      exact (Walks.tuple hh it l hne items).item i s Q E (by rw [e1]; exact hi) ⟨h1, h2⟩ fun x h' tk hp st' sb => hQ x h' tk hp ⟨st'.1, items, e1, rfl, st'.2⟩ sb
    · obtain ⟨h1, items, e1, e2, h2⟩ := st
      subst e1
      exact (Walks.tuple hh it l hne items).done s Q E ⟨h1, h2⟩ hE
    · obtain ⟨h1, items, e1, e2, h2⟩ := st
      exact (Walks.tuple hh it l hne items).self i s Q E ⟨h1, h2⟩ hQ
  draws := fun A hh Pv it hn => by
    have hne : l ≠ it := fun z => hn (by simp [z])
    refine ⟨fun i h st => ?_, fun i h h' st hk => ⟨st.1.at fun o e => hk it (by simp) o e, let ⟨items, e1, e2, x⟩ := st.2; ⟨items, e1, e2, x.at fun o e => hk l (by simp) o e⟩⟩, fun i s Q E hi st hQ => ?_, fun s Q E st hE => ?_⟩
    · obtain ⟨o, e, _⟩ := st.1
      exact ⟨o, e⟩
    · obtain ⟨h1, items, e1, e2, h2⟩ := st
      subst e2
      exact (Draws.tuple hh it l hne items).item i s Q E (by rw [e1]; exact hi) ⟨h1, h2⟩ fun x h' tk hp st' sb => hQ x h' tk hp ⟨st'.1, items, e1, rfl, st'.2⟩ sb
    · obtain ⟨h1, items, e1, e2, h2⟩ := st
      subst e1
      exact (Draws.tuple hh it l hne items).done s Q E ⟨h1, h2⟩ hE
end Mi
end
section
namespace Mi
open PySem PySem.Spec PyProof.Rows L2
variable {G : Kt} {X : Cx} {adr : Ad} {Y : WX}
theorem exact_at {P : Program} {w : World} {H : Hp} {h : Heap} (ok : HOk P w H h) {a : Addr} {o : Obj} (e : H a = some (exact o a)) : h.get? a = some o := (ok a _ e).1
theorem exact_inj {P : Program} {w : World} {H : Hp} {h : Heap} (ok : HOk P w H h) {a : Addr} {o u : Obj} (e : H a = some (exact o a)) (e2 : H a = some (exact u a)) : o = u :=
  Option.some.inj ((exact_at ok e).symm.trans (exact_at ok e2))
theorem Ents.len {es : List DictEntry} {kv vv : List V} {hs : List Int} (r : Ents es kv vv hs) : es.length = kv.length /\ es.length = vv.length := by
  induction r with
  | nil => exact ⟨rfl, rfl⟩
  | cons _ _ _ _ ih => exact ⟨by simp [ih.1], by simp [ih.2]⟩
theorem Ents.get {es : List DictEntry} {kv vv : List V} {hs : List Int} (r : Ents es kv vv hs) : ∀ {i : Nat} {e : DictEntry}, es[i]? = some e -> ∃ k v, kv[i]? = some k /\ vv[i]? = some v /\ RelV k e.key /\ RelV v e.val := by
  induction r with
  | nil => intro i e h; simp at h
  | cons hk hv hh _ ih =>
    intro i e h
    cases i with
    | zero => simp at h; subst h; exact ⟨_, _, rfl, rfl, hk, hv⟩
    | succ i => exact ih (by simpa using h)
theorem DictO.raw {o : Obj} {kv vv : List V} {hs : List Int} (d : DictO o kv vv hs) {h : Heap} {a : Addr} (e : h.get? a = some o) : ∃ es ep, o.data = .dict es ep /\ Ents es.toList kv vv hs /\ h.DictRaw a es ep :=
  let ⟨x, es, ep, ed, r⟩ := d
  ⟨es, ep, ed, r, o, e, x, ed⟩
def chars : List Nat -> List W
  | [] => []
  | c :: r => .str ⟨#[c]⟩ :: chars r
theorem chars_get : ∀ (l : List Nat) (i : Nat), (chars l)[i]? = l[i]?.map fun c => W.str ⟨#[c]⟩
  | [], i => by simp [chars]
  | c :: r, 0 => by simp [chars]
  | c :: r, i + 1 => by simpa [chars] using chars_get r i
theorem chars_len : ∀ l : List Nat, (chars l).length = l.length
  | [] => rfl
  | c :: r => by simp [chars, chars_len r]
def intsW : List Int -> List W
  | [] => []
  | i :: r => .int i :: intsW r
theorem intsW_rep {T : Tie} {H : Hp} : ∀ ns : List Int, Reps G T H (intsW ns) (ns.map V.int)
  | [] => Reps.nil
  | i :: r => Reps.cons (by unfold Rep; rfl) (intsW_rep r)
theorem scr_at {T : Tie} {H : Hp} {ns : List Int} {v : V} (rp : Rep G T H (.scr ns) v) : ∃ a, v = .ref a /\ SqL G.K H a (ns.map V.int) := by
  unfold Rep at rp
  obtain ⟨a, e, q⟩ := rp
  rcases q with ⟨_, q⟩ | q
  · exact ⟨a, e, .inl q⟩
  · exact ⟨a, e, .inr q⟩
def itemsOf : W -> Option (List W)
  | .tup ws => some ws
  | .lst ws => some ws
  | .dct ks _ => some ks
  | .dvs _ vs => some vs
  | .str s => some (chars s.cps.toList)
  | .scr ns => some (intsW ns)
  | .kt0 => some []
  | _ => none
def mSeq (m : EM) : AM := fun me h => (m me h).bind fun w h => ofO (itemsOf w) h
section
variable {prog : Program} {w : World} {A : Around} {E : Value -> Shared -> Prop} {s : Shared}
theorem nextOf_keys_item {it d : Addr} {i ep : Nat} {es : Array DictEntry} {Q : Value -> Shared -> Prop} (hit : s.heap.IsKeyIter it d i es.size ep)
    (hm : s.heap.DictRaw d es ep) (hlt' : i < es.size)
    (hQ : ∀ h', h'.IsKeyIter it d (i + 1) es.size ep -> Heap.SameBut it s.heap h' -> Q es[i].key { s with heap := h' }) :
    wpAny (model prog w) A (Builtin.SmallTypes.nextOf (.ref it)) Q E s := by
  obtain ⟨o, ho, hc, hd⟩ := id hit
  obtain ⟨od, hod, hcd, hdd⟩ := id hm
  unfold Builtin.SmallTypes.nextOf
  refine wpAny_bind (wpAny_callSpecial?_slot (name := Str.ofString "__next__") hit.typeIs F.slot_dict_keyiterator_next
    (wpAny_call_entry F.slot_dict_keyiterator_next hit.typeIs F.entry_dict_keyiterator_next ?_ (F.args_dict_keyiterator_next_1 _)))
  refine wpAny_bind (wpAny_pure ?_)
  refine wpAny_bind ?_
  refine wpAny_bind ?_
  first | refine wpAny_bind (wpAny_typeNameOfWhole_keyiter hit.typeIs (wpAny_pure ?_)) | refine wpAny_bind (wpAny_typeNameOf_keyiter hit.typeIs (wpAny_pure ?_))
  refine wpAny_bind (wpAny_fieldsOf ho hd ?_)
  have hown : Builtin.Dict_items.ownsTuple "dict_keyiterator" = false := by decide
  simp only [hown, Bool.false_eq_true, if_false]
  show wpAny _ _ (if (Value.ref d == Value.none) = true then _ else _) _ _ s
  rw [if_neg (show ¬ ((Value.ref d == Value.none) = true) from Bool.false_ne_true)]
  refine wpAny_bind (wpAny_pure ?_)
  refine wpAny_bind (wpAny_dictEntries hod hdd ?_)
  rw [if_neg (by simp)]
  refine wpAny_bind (wpAny_pure ?_)
  refine wpAny_bind (wpAny_dictEpoch hod hdd ?_)
  rw [if_neg (by simp)]
  refine wpAny_pure ?_
  simp only [show ¬ ((i : Int) < 0) from by omega, if_false, Int.toNat_natCast, Array.getElem?_eq_getElem hlt']
  refine wpAny_bind ?_
  first | refine wpAny_bind (wpAny_typeNameOfWhole_keyiter hit.typeIs (wpAny_pure ?_)) | refine wpAny_bind (wpAny_typeNameOf_keyiter hit.typeIs (wpAny_pure ?_))
  refine wpAny_bind (wpAny_isOneOf_keyiter hit.typeIs ?_)
  show wpAny _ _ (setField (.ref it) 1 (rawInt ((i : Int) + 1)) >>= _) _ _ s
  refine wpAny_bind (wpAny_setField ho hd (by simp) ?_)
  have hit' : (s.heap.update it (Obj.mapFields (·.setIfInBounds 1 (rawInt ((i : Int) + 1))))).IsKeyIter it d (i + 1) es.size ep :=
    ⟨_, Heap.get?_update_self _ ho (Obj.isFreed_of_fields (Obj.data_mapFields hd _)), (Obj.cls_mapFields ..).trans hc, by rw [Obj.data_mapFields hd]; simp [rawInt]⟩
  refine wpAny_bind (wpAny_holding ?_)
  refine wpAny_bind (wpAny_isOneOf_keyiter (s := { s with heap := s.heap.update it (Obj.mapFields (·.setIfInBounds 1 (rawInt ((i : Int) + 1)))) }) hit'.typeIs ?_)
  show wpAny _ _ (pure es[i].key) _ _ _
  exact wpAny_pure (wpAny_pure ⟨_, rfl, wpAny_pure (hQ _ hit' (Heap.SameBut.update ..))⟩)
theorem nextOf_values_item {it d : Addr} {i ep : Nat} {es : Array DictEntry} {Q : Value -> Shared -> Prop} (hit : s.heap.IsValIter it d i es.size ep)
    (hm : s.heap.DictRaw d es ep) (hlt' : i < es.size)
    (hQ : ∀ h', h'.IsValIter it d (i + 1) es.size ep -> Heap.SameBut it s.heap h' -> Q es[i].val { s with heap := h' }) :
    wpAny (model prog w) A (Builtin.SmallTypes.nextOf (.ref it)) Q E s := by
  obtain ⟨o, ho, hc, hd⟩ := id hit
  obtain ⟨od, hod, hcd, hdd⟩ := id hm
  unfold Builtin.SmallTypes.nextOf
  refine wpAny_bind (wpAny_callSpecial?_slot (name := Str.ofString "__next__") hit.typeIs F.slot_dict_valueiterator_next
    (wpAny_call_entry F.slot_dict_valueiterator_next hit.typeIs F.entry_dict_valueiterator_next ?_ (F.args_dict_valueiterator_next_1 _)))
  refine wpAny_bind (wpAny_pure ?_)
  refine wpAny_bind ?_
  refine wpAny_bind ?_
  first | refine wpAny_bind (wpAny_typeNameOfWhole_valiter hit.typeIs (wpAny_pure ?_)) | refine wpAny_bind (wpAny_typeNameOf_valiter hit.typeIs (wpAny_pure ?_))
  refine wpAny_bind (wpAny_fieldsOf ho hd ?_)
  have hown : Builtin.Dict_items.ownsTuple "dict_valueiterator" = false := by decide
  simp only [hown, Bool.false_eq_true, if_false]
  show wpAny _ _ (if (Value.ref d == Value.none) = true then _ else _) _ _ s
  rw [if_neg (show ¬ ((Value.ref d == Value.none) = true) from Bool.false_ne_true)]
  refine wpAny_bind (wpAny_pure ?_)
  refine wpAny_bind (wpAny_dictEntries hod hdd ?_)
  rw [if_neg (by simp)]
  refine wpAny_bind (wpAny_pure ?_)
  refine wpAny_bind (wpAny_dictEpoch hod hdd ?_)
  rw [if_neg (by simp)]
  refine wpAny_pure ?_
  simp only [show ¬ ((i : Int) < 0) from by omega, if_false, Int.toNat_natCast, Array.getElem?_eq_getElem hlt']
  refine wpAny_bind ?_
  first | refine wpAny_bind (wpAny_typeNameOfWhole_valiter hit.typeIs (wpAny_pure ?_)) | refine wpAny_bind (wpAny_typeNameOf_valiter hit.typeIs (wpAny_pure ?_))
  refine wpAny_bind (wpAny_isOneOf_valiter hit.typeIs ?_)
  show wpAny _ _ (setField (.ref it) 1 (rawInt ((i : Int) + 1)) >>= _) _ _ s
  refine wpAny_bind (wpAny_setField ho hd (by simp) ?_)
  have hit' : (s.heap.update it (Obj.mapFields (·.setIfInBounds 1 (rawInt ((i : Int) + 1))))).IsValIter it d (i + 1) es.size ep :=
    ⟨_, Heap.get?_update_self _ ho (Obj.isFreed_of_fields (Obj.data_mapFields hd _)), (Obj.cls_mapFields ..).trans hc, by rw [Obj.data_mapFields hd]; simp [rawInt]⟩
  refine wpAny_bind (wpAny_holding ?_)
  refine wpAny_bind (wpAny_isOneOf_valiter (s := { s with heap := s.heap.update it (Obj.mapFields (·.setIfInBounds 1 (rawInt ((i : Int) + 1)))) }) hit'.typeIs ?_)
  refine wpAny_bind (wpAny_isOneOf_valiter (s := { s with heap := s.heap.update it (Obj.mapFields (·.setIfInBounds 1 (rawInt ((i : Int) + 1)))) }) hit'.typeIs ?_)
  show wpAny _ _ (pure es[i].val) _ _ _
  exact wpAny_pure (wpAny_pure ⟨_, rfl, wpAny_pure (hQ _ hit' (Heap.SameBut.update ..))⟩)
theorem nextOf_keys_end {it d : Addr} {i ep : Nat} {es : Array DictEntry} {Q : Value -> Shared -> Prop} (hh : A.handled = none) (hit : s.heap.IsKeyIter it d i es.size ep)
    (hm : s.heap.DictRaw d es ep) (hge : es.size <= i)
    (hE : ∀ h' e, Heap.ExtBut it s.heap h' -> (∃ o, h'.get? e = some o /\ o.cls = .type "StopIteration") -> E (.ref e) { s with heap := h' }) : wpAny (model prog w) A (Builtin.SmallTypes.nextOf (.ref it)) Q E s := by
  obtain ⟨o, ho, hc, hd⟩ := id hit
  obtain ⟨od, hod, hcd, hdd⟩ := id hm
  unfold Builtin.SmallTypes.nextOf
  refine wpAny_bind (wpAny_callSpecial?_slot (name := Str.ofString "__next__") hit.typeIs F.slot_dict_keyiterator_next
    (wpAny_call_entry F.slot_dict_keyiterator_next hit.typeIs F.entry_dict_keyiterator_next ?_ (F.args_dict_keyiterator_next_1 _)))
  refine wpAny_bind (wpAny_pure ?_)
  refine wpAny_bind ?_
  refine wpAny_bind ?_
  first | refine wpAny_bind (wpAny_typeNameOfWhole_keyiter hit.typeIs (wpAny_pure ?_)) | refine wpAny_bind (wpAny_typeNameOf_keyiter hit.typeIs (wpAny_pure ?_))
  refine wpAny_bind (wpAny_fieldsOf ho hd ?_)
  have hown : Builtin.Dict_items.ownsTuple "dict_keyiterator" = false := by decide
  simp only [hown, Bool.false_eq_true, if_false]
  show wpAny _ _ (if (Value.ref d == Value.none) = true then _ else _) _ _ s
  rw [if_neg (show ¬ ((Value.ref d == Value.none) = true) from Bool.false_ne_true)]
  refine wpAny_bind (wpAny_pure ?_)
  refine wpAny_bind (wpAny_dictEntries hod hdd ?_)
  rw [if_neg (by simp)]
  refine wpAny_bind (wpAny_pure ?_)
  refine wpAny_bind (wpAny_dictEpoch hod hdd ?_)
  rw [if_neg (by simp)]
  refine wpAny_pure ?_
  simp only [show ¬ ((i : Int) < 0) from by omega, if_false, Int.toNat_natCast, Array.getElem?_eq_none hge]
  refine wpAny_bind ?_
  first | refine wpAny_bind (wpAny_typeNameOfWhole_keyiter hit.typeIs (wpAny_pure ?_)) | refine wpAny_bind (wpAny_typeNameOf_keyiter hit.typeIs (wpAny_pure ?_))
  show wpAny _ _ (setField (.ref it) 0 .none >>= _) _ _ s
  refine wpAny_bind (wpAny_setField ho hd (by simp) ?_)
  show wpAny _ _ (newExc (.type "StopIteration") [] >>= _) _ _ _
  refine wpAny_bind ?_
  simp only [newExc, newTuple]
  refine wpAny_bind (wpAny_newObj_type ?_ (by size_fits))
  refine wpAny_bind (m := firstArgMember _ _) (wpAny_of_eq (a := Value.none) (by first | rfl | (simp only [firstArgMember]; rfl)) ?_)
  refine wpAny_newObj_type ?_ (by size_fits)
  simp only [raiseNew]
  refine wpAny_bind (wpAny_handled ?_)
  rw [show A.in1.handled = none from hh]
  refine wpAny_bind (wpAny_pure (wpAny_throw ?_))
  exact hE _ _ (((Heap.SameBut.update ..).extBut.push _).push _) ⟨_, Heap.get?_push_size _ rfl, rfl⟩
theorem nextOf_values_end {it d : Addr} {i ep : Nat} {es : Array DictEntry} {Q : Value -> Shared -> Prop} (hh : A.handled = none) (hit : s.heap.IsValIter it d i es.size ep)
    (hm : s.heap.DictRaw d es ep) (hge : es.size <= i)
    (hE : ∀ h' e, Heap.ExtBut it s.heap h' -> (∃ o, h'.get? e = some o /\ o.cls = .type "StopIteration") -> E (.ref e) { s with heap := h' }) : wpAny (model prog w) A (Builtin.SmallTypes.nextOf (.ref it)) Q E s := by
  obtain ⟨o, ho, hc, hd⟩ := id hit
  obtain ⟨od, hod, hcd, hdd⟩ := id hm
  unfold Builtin.SmallTypes.nextOf
  refine wpAny_bind (wpAny_callSpecial?_slot (name := Str.ofString "__next__") hit.typeIs F.slot_dict_valueiterator_next
    (wpAny_call_entry F.slot_dict_valueiterator_next hit.typeIs F.entry_dict_valueiterator_next ?_ (F.args_dict_valueiterator_next_1 _)))
  refine wpAny_bind (wpAny_pure ?_)
  refine wpAny_bind ?_
  refine wpAny_bind ?_
  first | refine wpAny_bind (wpAny_typeNameOfWhole_valiter hit.typeIs (wpAny_pure ?_)) | refine wpAny_bind (wpAny_typeNameOf_valiter hit.typeIs (wpAny_pure ?_))
  refine wpAny_bind (wpAny_fieldsOf ho hd ?_)
  have hown : Builtin.Dict_items.ownsTuple "dict_valueiterator" = false := by decide
  simp only [hown, Bool.false_eq_true, if_false]
  show wpAny _ _ (if (Value.ref d == Value.none) = true then _ else _) _ _ s
  rw [if_neg (show ¬ ((Value.ref d == Value.none) = true) from Bool.false_ne_true)]
  refine wpAny_bind (wpAny_pure ?_)
  refine wpAny_bind (wpAny_dictEntries hod hdd ?_)
  rw [if_neg (by simp)]
  refine wpAny_bind (wpAny_pure ?_)
  refine wpAny_bind (wpAny_dictEpoch hod hdd ?_)
  rw [if_neg (by simp)]
  refine wpAny_pure ?_
  simp only [show ¬ ((i : Int) < 0) from by omega, if_false, Int.toNat_natCast, Array.getElem?_eq_none hge]
  refine wpAny_bind ?_
  first | refine wpAny_bind (wpAny_typeNameOfWhole_valiter hit.typeIs (wpAny_pure ?_)) | refine wpAny_bind (wpAny_typeNameOf_valiter hit.typeIs (wpAny_pure ?_))
  show wpAny _ _ (setField (.ref it) 0 .none >>= _) _ _ s
  refine wpAny_bind (wpAny_setField ho hd (by simp) ?_)
  show wpAny _ _ (newExc (.type "StopIteration") [] >>= _) _ _ _
  refine wpAny_bind ?_
  simp only [newExc, newTuple]
  refine wpAny_bind (wpAny_newObj_type ?_ (by size_fits))
  refine wpAny_bind (m := firstArgMember _ _) (wpAny_of_eq (a := Value.none) (by first | rfl | (simp only [firstArgMember]; rfl)) ?_)
  refine wpAny_newObj_type ?_ (by size_fits)
  simp only [raiseNew]
  refine wpAny_bind (wpAny_handled ?_)
  rw [show A.in1.handled = none from hh]
  refine wpAny_bind (wpAny_pure (wpAny_throw ?_))
  exact hE _ _ (((Heap.SameBut.update ..).extBut.push _).push _) ⟨_, Heap.get?_push_size _ rfl, rfl⟩
end
end Mi
end
section
namespace Mi
open PySem PySem.Spec PyProof.Rows L2
variable {G : Kt} {X : Cx} {adr : Ad} {Y : WX}
theorem draws_keys {P : Program} {w : World} {A : Around} (hh : A.handled = none) (it d : Addr) (hne : d ≠ it) (es : Array DictEntry) (ep : Nat) :
    Draws P w A it [it, d] es.size (fun i v => ∃ hi : i < es.size, v = es[i].key) (fun i h => h.IsKeyIter it d i es.size ep /\ h.DictRaw d es ep) where
  live := fun i h st => let ⟨o, e, _⟩ := st.1; ⟨o, e⟩
  frame := fun i h h' st hk => ⟨let ⟨o, e, r⟩ := st.1; ⟨o, hk it (by simp) o e, r⟩, st.2.at fun o e => hk d (by simp) o e⟩
  item := fun i s Q E hi st hQ => nextOf_keys_item st.1 st.2 hi fun h' hit' hs' => hQ _ h' s.toks ⟨hi, rfl⟩ ⟨hit', st.2.at fun o e => hs'.extBut d o hne e⟩ hs'
  done := fun s Q E st hE => nextOf_keys_end hh st.1 st.2 (Nat.le_refl _) fun h' e a b => hE h' e a b
theorem draws_values {P : Program} {w : World} {A : Around} (hh : A.handled = none) (it d : Addr) (hne : d ≠ it) (es : Array DictEntry) (ep : Nat) :
    Draws P w A it [it, d] es.size (fun i v => ∃ hi : i < es.size, v = es[i].val) (fun i h => h.IsValIter it d i es.size ep /\ h.DictRaw d es ep) where
  live := fun i h st => let ⟨o, e, _⟩ := st.1; ⟨o, e⟩
  frame := fun i h h' st hk => ⟨let ⟨o, e, r⟩ := st.1; ⟨o, hk it (by simp) o e, r⟩, st.2.at fun o e => hk d (by simp) o e⟩
  item := fun i s Q E hi st hQ => nextOf_values_item st.1 st.2 hi fun h' hit' hs' => hQ _ h' s.toks ⟨hi, rfl⟩ ⟨hit', st.2.at fun o e => hs'.extBut d o hne e⟩ hs'
  done := fun s Q E st hE => nextOf_values_end hh st.1 st.2 (Nat.le_refl _) fun h' e a b => hE h' e a b
theorem bsrc_key {P : Program} {w : World} (d : Addr) (es : Array DictEntry) (ep : Nat) (hd : (d == sysModules) = false) :
    Bsrc P w (.ref d) { cls := .type "dict_keyiterator", data := .fields #[.ref d, .int 0 0, .int es.size 0, .int ep 0] } (fun it i h => h.IsKeyIter it d i es.size ep) es.size [d]
    (fun Pv h => Pv = (fun i v => ∃ hi : i < es.size, v = es[i].key) /\ h.DictRaw d es ep) where
  begins := fun Pv => ⟨fun prog w A E s Q ⟨_, x⟩ h => wpAny_pyIter_dict_raw hd x h, fun h h' ⟨e, x⟩ hk => ⟨e, x.at fun o e => hk d o e⟩, rfl⟩
  start := fun h it e => ⟨_, e, rfl, rfl⟩
  at_ := fun it i h h' st k => let ⟨o, e, r⟩ := st; ⟨o, k o e, r⟩
  cell := fun it i h st => by
    obtain ⟨o, e, c, d⟩ := st
    exact ⟨o, e, fun v z => by rw [d] at z; cases z⟩
  self := fun _ _ _ _ _ _ st hQ => wpAny_pyIter_keyiter st hQ
  go := fun it i h st => by
    obtain ⟨o, e, c, d⟩ := st
    exact ⟨o, _, _, e, c, d, by decide⟩
  walks := fun A hh Pv it hn => by
    have hne : d ≠ it := fun z => hn (by simp [z])
    have D := Walks.rawKeys (prog := P) (w := w) hh it d hne es ep
    refine ⟨fun b hb => by simp at hb ⊢; exact .inl hb, fun i h h' st hk => let x := D.frame i h h' ⟨st.1, st.2.2⟩ hk; ⟨x.1, st.2.1, x.2⟩, fun i s Q E hi st hQ => ?_, fun s Q E st hE => D.done s Q E ⟨st.1, st.2.2⟩ hE, fun i s Q E st hQ => D.self i s Q E ⟨st.1, st.2.2⟩ hQ⟩
    obtain ⟨h1, e2, h2⟩ := st
    subst e2
    exact D.item i s Q E hi ⟨h1, h2⟩ fun x h' tk hp st' sb => hQ x h' tk hp ⟨st'.1, rfl, st'.2⟩ sb
  draws := fun A hh Pv it hn => by
    have hne : d ≠ it := fun z => hn (by simp [z])
    have D := draws_keys (P := P) (w := w) hh it d hne es ep
    refine ⟨fun i h st => D.live i h ⟨st.1, st.2.2⟩, fun i h h' st hk => let x := D.frame i h h' ⟨st.1, st.2.2⟩ hk; ⟨x.1, st.2.1, x.2⟩, fun i s Q E hi st hQ => ?_, fun s Q E st hE => D.done s Q E ⟨st.1, st.2.2⟩ hE⟩
    obtain ⟨h1, e2, h2⟩ := st
    subst e2
    exact D.item i s Q E hi ⟨h1, h2⟩ fun x h' tk hp st' sb => hQ x h' tk hp ⟨st'.1, rfl, st'.2⟩ sb
theorem bsrc_val {P : Program} {w : World} (b d : Addr) (es : Array DictEntry) (ep : Nat) :
    Bsrc P w (.ref b) { cls := .type "dict_valueiterator", data := .fields #[.ref d, .int 0 0, .int es.size 0, .int ep 0] } (fun it i h => h.IsValIter it d i es.size ep) es.size [d, b]
    (fun Pv h => Pv = (fun i v => ∃ hi : i < es.size, v = es[i].val) /\ h.DictRaw d es ep /\ h.get? b = some (valsO d)) where
  begins := fun Pv => ⟨fun prog w A E s Q ⟨_, x, y⟩ h => wpAny_pyIter_values_raw ⟨_, y, rfl, rfl⟩ x h, fun h h' ⟨e, x, y⟩ hk => ⟨e, x.at fun o e => hk d o e, hk b _ y⟩, rfl⟩
  start := fun h it e => ⟨_, e, rfl, rfl⟩
  at_ := fun it i h h' st k => let ⟨o, e, r⟩ := st; ⟨o, k o e, r⟩
  cell := fun it i h st => by
    obtain ⟨o, e, c, d⟩ := st
    exact ⟨o, e, fun v z => by rw [d] at z; cases z⟩
  self := fun _ _ _ _ _ _ st hQ => wpAny_pyIter_valiter st hQ
  go := fun it i h st => by
    obtain ⟨o, e, c, d⟩ := st
    exact ⟨o, _, _, e, c, d, by decide⟩
  walks := fun A hh Pv it hn => by
    have hne : d ≠ it := fun z => hn (by simp [z])
    have hnb : b ≠ it := fun z => hn (by simp [z])
    have D := Walks.rawValues (prog := P) (w := w) hh it d hne es ep
    refine ⟨fun b hb => by simp at hb ⊢; exact .inl hb, fun i h h' st hk => let x := D.frame i h h' ⟨st.1, st.2.2.1⟩ fun c hc => hk c (by simp at hc ⊢; rcases hc with z | z <;> simp [z]); ⟨x.1, st.2.1, x.2, hk b (by simp) _ st.2.2.2⟩, fun i s Q E hi st hQ => ?_, fun s Q E st hE => D.done s Q E ⟨st.1, st.2.2.1⟩ hE, fun i s Q E st hQ => D.self i s Q E ⟨st.1, st.2.2.1⟩ hQ⟩
    obtain ⟨h1, e2, h2, h3⟩ := st
    subst e2
    exact D.item i s Q E hi ⟨h1, h2⟩ fun x h' tk hp st' sb => hQ x h' tk hp ⟨st'.1, rfl, st'.2, sb b _ (by simp [hnb]) h3⟩ sb
  draws := fun A hh Pv it hn => by
    have hne : d ≠ it := fun z => hn (by simp [z])
    have hnb : b ≠ it := fun z => hn (by simp [z])
    have D := draws_values (P := P) (w := w) hh it d hne es ep
    refine ⟨fun i h st => D.live i h ⟨st.1, st.2.2.1⟩, fun i h h' st hk => let x := D.frame i h h' ⟨st.1, st.2.2.1⟩ fun c hc => hk c (by simp at hc ⊢; rcases hc with z | z <;> simp [z]); ⟨x.1, st.2.1, x.2, hk b (by simp) _ st.2.2.2⟩, fun i s Q E hi st hQ => ?_, fun s Q E st hE => D.done s Q E ⟨st.1, st.2.2.1⟩ hE⟩
    obtain ⟨h1, e2, h2, h3⟩ := st
    subst e2
    exact D.item i s Q E hi ⟨h1, h2⟩ fun x h' tk hp st' sb => hQ x h' tk hp ⟨st'.1, rfl, st'.2, (sb.2 b hnb).trans h3⟩ sb
theorem bsrc_str {P : Program} {w : World} (x : Str) (t : Tok) :
    Bsrc P w (.str x t) { cls := .type (strIterType x), data := .fields #[.str x t, .int 0 0] } (fun it i h => h.IsStrIter it (strIterType x) x t i) x.cps.size []
    (fun Pv h => Pv = (fun i v => ∃ c u, x.cps[i]? = some c /\ v = .str ⟨#[c]⟩ u)) where
  begins := fun Pv => ⟨fun prog w A E s Q _ h => wpAny_pyIter_strU h, fun h h' e hk => e, rfl⟩
  start := fun h it e => ⟨_, e, rfl, rfl⟩
  at_ := fun it i h h' st k => let ⟨o, e, r⟩ := st; ⟨o, k o e, r⟩
  cell := fun it i h st => by
    obtain ⟨o, e, c, d⟩ := st
    exact ⟨o, e, fun v z => by rw [d] at z; cases z⟩
  self := fun _ _ _ _ _ _ st hQ => (by
    unfold strIterType at st
    split at st
    · exact wpAny_pyIter_striter_ascii st hQ
    · exact wpAny_pyIter_striter_wide st hQ)
  go := fun it i h st => by
    obtain ⟨o, e, c, d⟩ := st
    refine ⟨o, _, _, e, c, d, ?_⟩
    unfold strIterType
    split <;> decide
  walks := fun A hh Pv it hn => by
    have D : Walks P w A it [it] [it] x.cps.size (fun i v => ∃ c u, x.cps[i]? = some c /\ v = .str ⟨#[c]⟩ u) (fun i h => h.IsStrIter it (strIterType x) x t i) := by
      cases ha : x.cps.all (· < 128)
      · simp only [strIterType, ha, Bool.false_eq_true, if_false]
        exact Walks.strWide hh it x t
      · simp only [strIterType, ha, if_true]
        exact Walks.strAscii hh it x t
    refine ⟨fun b hb => by simp at hb ⊢; exact hb, fun i h h' st hk => ⟨D.frame i h h' st.1 hk, st.2⟩, fun i s Q E hi st hQ => ?_, fun s Q E st hE => D.done s Q E st.1 hE, fun i s Q E st hQ => D.self i s Q E st.1 hQ⟩
    obtain ⟨h1, e2⟩ := st
    subst e2
    exact D.item i s Q E hi h1 fun x h' tk hp st' sb => hQ x h' tk hp ⟨st', rfl⟩ sb
  draws := fun A hh Pv it hn => by
    have D := Draws.text (prog := P) (w := w) hh it x t
    refine ⟨fun i h st => D.live i h st.1, fun i h h' st hk => ⟨D.frame i h h' st.1 hk, st.2⟩, fun i s Q E hi st hQ => ?_, fun s Q E st hE => D.done s Q E st.1 hE⟩
    obtain ⟨h1, e2⟩ := st
    subst e2
    exact D.item i s Q E hi h1 fun x h' tk hp st' sb => hQ x h' tk hp ⟨st', rfl⟩ sb
theorem valsR : ∀ {xs : List V} {us : List Value} {i : Nat} {u : Value}, Vals xs us -> us[i]? = some u -> ∃ x, xs[i]? = some x /\ RelV x u
  | _, _, _, _, .nil, e => by simp at e
  | _, _, 0, _, .cons r _, e => by simp at e; subst e; exact ⟨_, rfl, r⟩
  | _, _, i + 1, _, .cons _ t, e => by
    obtain ⟨x, ex, r⟩ := valsR (i := i) t (by simpa using e)
    exact ⟨x, by simpa using ex, r⟩
theorem Reps.getL {T : Tie} {H : Hp} : ∀ {ws : List W} {vs : List V} {i : Nat} {v : V}, Reps G T H ws vs -> vs[i]? = some v -> ∃ w, ws[i]? = some w /\ Rep G T H w v
  | [], vs, i, v, h, e => by unfold Reps at h; subst h; simp at e
  | y :: r, vs, 0, v, h, e => by
    unfold Reps at h
    obtain ⟨u, s, rfl, h1, _⟩ := h
    simp at e; subst e
    exact ⟨y, rfl, h1⟩
  | y :: r, vs, i + 1, v, h, e => by
    unfold Reps at h
    obtain ⟨u, s, rfl, _, h2⟩ := h
    obtain ⟨w, e2, q⟩ := Reps.getL (i := i) h2 (by simpa using e)
    exact ⟨w, by simpa using e2, q⟩
structure Srcd (G : Kt) (T : Tie) (H : Hp) (x : W) (v : V) (ws : List W) (u : Value) (kn : Hp -> Prop) (o : Obj) (It : Addr -> Nat -> Heap -> Prop) (F : List Addr) (Sr : (Nat -> Value -> Prop) -> Heap -> Prop) : Prop where
  B : Bsrc G.P G.w u o It ws.length F Sr
  read : ∀ H h, HOk G.P G.w H h -> G.K.In h -> kn H -> ∃ Pv, Sr Pv h /\ (∀ b ∈ F, b < h.objs.size) /\ ∀ i y, Pv i y -> ∃ a, RelV a y /\ ∀ T, Rep G T H x v -> ∃ z, ws[i]? = some z /\ Rep G T H z a
  keeps : ∀ T' H', Ex T T' H H' -> kn H'
theorem sqL_list {P : Program} {w : World} {K : PySem.W.Frag} {H : Hp} {h : Heap} (ok : HOk P w H h) (kin : K.In h) {a : Addr} {xs : List V} (q : SqL K H a xs) : ∃ its : List Value, Vals xs its /\ h.IsList a its.toArray := by
  rcases q with q | ⟨o, its, n, e, c, _, d, _, r⟩
  · obtain ⟨_, its, n, r, g⟩ := q.ok ok
    exact ⟨its, r, _, g, rfl, _, rfl⟩
  · exact ⟨its.toList, r, o, kin _ _ e, c, n, by rw [d, Array.toArray_toList]⟩
theorem src_of {x : W} {v : V} {u : Value} {ws : List W} (ru : RelV v u) {T : Tie} {H : Hp} {h : Heap} (ok : HOk G.P G.w H h) (rp : Rep G T H x v) (e : itemsOf x = some ws) :
    ∃ kn o It F Sr, Srcd G T H x v ws u kn o It F Sr := by
  cases x with
  | tup w =>
    injection e with e
    subst e
    unfold Rep at rp
    obtain ⟨a, vs, rfl, f, q, r⟩ := rp
    obtain rfl : u = .ref a := ru
    refine ⟨fun H => H a = some (.tup vs), _, _, _, _, ⟨by rw [r.length]; exact bsrc_tup a vs.length, fun H h ok kin kn => ?_, fun T' H' x => ?_⟩⟩
    · obtain ⟨_, its, rv, p⟩ := ok _ _ kn
      refine ⟨_, ⟨its.toArray, by simpa using rv.length.symm, rfl, p⟩, fun b hb => ?_, fun i y hy => ?_⟩
      · simp at hb; subst hb; exact p.lt
      · have hy : its[i]? = some y := by simpa using hy
        obtain ⟨a', ea, ra⟩ := valsR rv hy
        refine ⟨a', ra, fun T rp => ?_⟩
        unfold Rep at rp
        obtain ⟨a2, vs2, e2, f2, q2, r2⟩ := rp
        cases e2
        rw [kn] at q2; cases q2
        exact r2.getL ea
    · exact x.fz _ _ q f
  | lst w =>
    injection e with e
    subst e
    unfold Rep at rp
    obtain ⟨a, vs, rfl, f, q, r⟩ := rp
    obtain rfl : u = .ref a := ru
    refine ⟨fun H => H a = some (.lst vs), _, _, _, _, ⟨by rw [r.length]; exact bsrc_list a vs.length, fun H h ok kin kn => ?_, fun T' H' x => ?_⟩⟩
    · obtain ⟨_, its, n, rv, p⟩ := ok _ _ kn
      refine ⟨_, ⟨its.toArray, by simpa using rv.length.symm, rfl, ⟨_, p, rfl, _, rfl⟩⟩, fun b hb => ?_, fun i y hy => ?_⟩
      · simp at hb; subst hb; exact Heap.lt_size p
      · have hy : its[i]? = some y := by simpa using hy
        obtain ⟨a', ea, ra⟩ := valsR rv hy
        refine ⟨a', ra, fun T rp => ?_⟩
        unfold Rep at rp
        obtain ⟨a2, vs2, e2, f2, q2, r2⟩ := rp
        cases e2
        rw [kn] at q2; cases q2
        exact r2.getL ea
    · exact x.fz _ _ q f
  | str z =>
    injection e with e
    subst e
    unfold Rep at rp
    subst rp
    obtain ⟨t, rfl⟩ := ru
    refine ⟨fun _ => True, _, _, _, _, ⟨by rw [chars_len]; exact bsrc_str z t, fun H h ok kin kn => ?_, fun _ _ _ => trivial⟩⟩
    refine ⟨_, rfl, fun b hb => (nomatch hb), fun i y ⟨c, tt, hc, ey⟩ => ?_⟩
    subst ey
    refine ⟨.str ⟨#[c]⟩, ⟨tt, rfl⟩, fun T _ => ⟨.str ⟨#[c]⟩, ?_, by unfold Rep; rfl⟩⟩
    rw [chars_get]
    have : z.cps.toList[i]? = some c := by simpa using hc
    rw [this]; rfl
  | scr ns =>
    injection e with e
    subst e
    have rp0 := rp
    obtain ⟨a, rfl, q⟩ := scr_at rp
    obtain rfl : u = .ref a := ru
    have keeps : ∀ T' H', Ex T T' H H' -> SqL G.K H' a (ns.map V.int) := fun T' H' x => by
      obtain ⟨a2, e2, q2⟩ := scr_at (rep_ex x _ _ rp0)
      cases e2
      exact q2
    have l1 : (ns.map V.int).length = (intsW ns).length := (intsW_rep (G := G) (T := T) (H := H) ns).length.symm
    refine ⟨fun H => SqL G.K H a (ns.map V.int), _, _, _, _, ⟨bsrc_list a (intsW ns).length, fun H h ok kin kn => ?_, keeps⟩⟩
    obtain ⟨its, rv, p⟩ := sqL_list ok kin kn
    refine ⟨_, ⟨its.toArray, by rw [<- l1]; simpa using rv.length.symm, rfl, p⟩, fun b hb => ?_, fun i y hy => ?_⟩
    · simp at hb; subst hb; obtain ⟨o, e, _⟩ := p; exact Heap.lt_size e
    · have hy : its[i]? = some y := by simpa using hy
      obtain ⟨a', ea, ra⟩ := valsR rv hy
      exact ⟨a', ra, fun T _ => (intsW_rep ns).getL ea⟩
  | kt0 =>
    injection e with e
    subst e
    unfold Rep at rp
    obtain ⟨a, rfl, o, n, k1, k2, k3⟩ := rp
    obtain rfl : u = .ref a := ru
    refine ⟨fun _ => True, _, _, _, _, ⟨bsrc_tup a 0, fun H h ok kin kn => ?_, fun _ _ _ => trivial⟩⟩
    refine ⟨_, ⟨#[], rfl, rfl, o, kin _ _ k1, k2, n, k3⟩, fun b hb => ?_, fun i y hy => by simp at hy⟩
    simp at hb; subst hb; exact Heap.lt_size (kin _ _ k1)
  | dct ks vs =>
    injection e with e
    subst e
    unfold Rep at rp
    obtain ⟨a, o, kv, vv, rfl, f, sm, ko, q, d, r1, r2⟩ := rp
    obtain rfl : u = .ref a := ru
    obtain ⟨es, ep, ed, en, _⟩ := d.raw (exact_at ok q)
    have xd := d.1
    have ln : ks.length = es.size := by
      have h1 := r1.length
      have h2 := en.len.1
      simp at h2; omega
    refine ⟨fun H => H a = some (exact o a), _, _, _, _, ⟨by rw [ln]; exact bsrc_key a es ep sm, fun H h ok kin kn => ?_, fun T' H' x => ?_⟩⟩
    · have ea := exact_at ok kn
      refine ⟨_, ⟨rfl, o, ea, xd, ed⟩, fun b hb => ?_, fun i y ⟨hi, ey⟩ => ?_⟩
      · simp at hb; subst hb; exact Heap.lt_size ea
      · subst ey
        obtain ⟨k, w, ek, ew, rk, rw'⟩ := en.get (i := i) (e := es[i]) (by simp [hi])
        refine ⟨k, rk, fun T rp => ?_⟩
        unfold Rep at rp
        obtain ⟨a2, o2, kv2, vv2, e2, f2, sm2, ko2, q2, d2, r3, r4⟩ := rp
        cases e2
        obtain rfl := exact_inj ok kn q2
        obtain ⟨es2, ep2, ed2, en2, _⟩ := d2.raw ea
        rw [ed] at ed2
        cases ed2
        obtain ⟨k2, w2, ek2, ew2, rk2, rw2⟩ := en2.get (i := i) (e := es[i]) (by simp [hi])
        obtain rfl := rk.inj rk2
        exact r3.getL ek2
    · exact x.fz _ _ q f
  | dvs ks vs =>
    injection e with e
    subst e
    unfold Rep at rp
    obtain ⟨b, a, o, kv, vv, rfl, fb, qb, f, sm, ko, q, d, r1, r2⟩ := rp
    obtain rfl : u = .ref b := ru
    obtain ⟨es, ep, ed, en, _⟩ := d.raw (exact_at ok q)
    have xd := d.1
    have ln : vs.length = es.size := by
      have h1 := r2.length
      have h2 := en.len.2
      simp at h2; omega
    refine ⟨fun H => H b = some (exact (valsO a) b) /\ H a = some (exact o a), _, _, _, _, ⟨by rw [ln]; exact bsrc_val b a es ep, fun H h ok kin kn => ?_, fun T' H' x => ?_⟩⟩
    · have eb := exact_at ok kn.1
      have ea := exact_at ok kn.2
      refine ⟨_, ⟨rfl, ⟨o, ea, xd, ed⟩, eb⟩, fun c hb => ?_, fun i y ⟨hi, ey⟩ => ?_⟩
      · simp at hb
        rcases hb with z | z
        · subst z; exact Heap.lt_size ea
        · subst z; exact Heap.lt_size eb
      · subst ey
        obtain ⟨k, w, ek, ew, rk, rw'⟩ := en.get (i := i) (e := es[i]) (by simp [hi])
        refine ⟨w, rw', fun T rp => ?_⟩
        unfold Rep at rp
        obtain ⟨b2, a2, o2, kv2, vv2, e2, fb2, qb2, f2, sm2, ko2, q2, d2, r3, r4⟩ := rp
        cases e2
        obtain rfl : a2 = a := by
          have := exact_inj ok qb2 kn.1
          simpa [valsO] using this
        obtain rfl := exact_inj ok kn.2 q2
        obtain ⟨es2, ep2, ed2, en2, _⟩ := d2.raw ea
        rw [ed] at ed2
        cases ed2
        obtain ⟨k2, w2, ek2, ew2, rk2, rw2⟩ := en2.get (i := i) (e := es[i]) (by simp [hi])
        obtain rfl := rw'.inj rw2
        exact r4.getL ew2
    · exact ⟨x.fz _ _ qb fb, x.fz _ _ q f⟩
  | _ => cases e
end Mi
end
section
namespace Mi
open PySem PySem.Spec PyProof.Rows L2
variable {G : Kt} {X : Cx} {adr : Ad} {Y : WX}
def Pr1 (G : Kt) (x : W) (v : V) (ws : List W) (i : Nat) (H : Hp) (a : V) : Prop := ∀ T, Rep G T H x v -> ∃ z, ws[i]? = some z /\ Rep G T H z a
theorem go_nothing {M : Model} {A : Around} {E : Value -> Shared -> Prop} {s : Shared} {tg : Expr} {it : Addr} {u : Value} {Q : Unit -> Shared -> Prop}
    (g : ∃ o nm vs, s.heap.get? it = some o /\ o.cls = .type nm /\ o.data = .fields vs /\ ["enumerate", "zip", "dict_itemiterator", "dict_reverseitemiterator", "odict_iterator", "itertools.zip_longest", "itertools.pairwise"].contains nm = false) (hQ : Q () s) :
    wpAny M A (letOwnedTupleGo tg (.ref it) u) Q E s := let ⟨o, nm, vs, e, c, d, n⟩ := g; go_of e c d n hQ
theorem turn_src {tg : Expr} {T : Tie} {H : Hp} {x : W} {v : V} {u : Value} {ws : List W} {kn : Hp -> Prop} {o : Obj} {It : Addr -> Nat -> Heap -> Prop} {F : List Addr} {Sr : (Nat -> Value -> Prop) -> Heap -> Prop} (S : Srcd G T H x v ws u kn o It F Sr) {it : Addr} (hn : it ∉ F) :
    Turn G.P G.w G.K tg (Js ws.length kn (Pr1 G x v ws)) [it] it (fun i h => It it i h) := by
  refine turn_single (by simp) (fun i h st b hb => ?_) (fun i h h' st hk => S.B.at_ it i h h' st fun o e => hk it (by simp) o e) (fun A H h i hh ok kin kn st hi => ?_) fun A i s Q E st hQ => S.B.self A it i s Q E st hQ
  · have e : b = it := by simpa using hb
    subst e
    exact S.B.cell b i h st
  · obtain ⟨Pv, sr, _, pv⟩ := S.read H h ok kin kn
    have Wk := S.B.walks A hh Pv it hn
    refine ⟨_, Pv, it :: F, [it], (Goes.ofWalks Wk fun i v s Q E st hQ => go_nothing (S.B.go it i s.heap st.1) hQ).toN, ⟨st, sr⟩, fun b hb => hb, fun j h' st => st.1, fun i y hy => ?_⟩
    obtain ⟨a, ra, f⟩ := pv i y hy
    exact ⟨a, ra, f⟩
theorem wk_src {T : Tie} {H : Hp} {h : MH} {x : W} {v : V} {u : Value} {ws : List W} {kn : Hp -> Prop} {o : Obj} {It : Addr -> Nat -> Heap -> Prop} {F : List Addr} {Sr : (Nat -> Value -> Prop) -> Heap -> Prop} (S : Srcd G T H x v ws u kn o It F Sr) (rp : Rep G T H x v) :
    Wk G T H ws (Js ws.length kn (Pr1 G x v ws)) where
  go := fun T' H' i ok x' hi => ⟨hi, S.keeps T' H' x'⟩
  stop := fun T' H' ok x' => ⟨rfl, S.keeps T' H' x'⟩
  yld := fun T' H' i y H'' h w hr x' ew yl => by
    obtain ⟨rfl, f⟩ := yl
    obtain ⟨z, ez, rz⟩ := f T' (rep_ex x' _ _ rp)
    rw [ew] at ez
    cases ez
    exact ⟨hr, Ex.rfl' hr.ok, rz⟩
theorem mi_any {tg e : Expr} {m : EM} (he : ME X adr Y e m) : MI X adr Y tg e (mSeq m) := by
  refine ⟨fun pins s σ H R I ⟨T, me, h, hr, hE, q⟩ => ?_⟩
  refine thn (he.run pins s σ H (fun v H1 => ∃ T1 h1 w ws, Hrel (kt X adr) T1 h1 H1 /\ Rep (kt X adr) T1 H1 w v /\ itemsOf w = some ws /\ ∀ J, Wk (kt X adr) T1 H1 ws J -> R J H1) I ⟨T, me, h, hr, hE, Res.bind q fun w h1 _ T1 H1 v hr1 x1 rp1 q1 => ?_⟩)
    fun u s1 ⟨v, H1, I1, r1, T1, h1, w, ws, hr1, rp, ei, q⟩ => ?_
  · cases e1 : itemsOf w with
    | none => rw [e1] at q1; exact q1.elim
    | some ws =>
      rw [e1] at q1
      exact ⟨T1, h1, w, ws, hr1, rp1, e1, fun J wk => q1 T1 H1 J hr1 (Ex.rfl' hr1.ok) wk⟩
  · obtain ⟨kn, o, It, F, Sr, S⟩ := src_of (G := kt X adr) r1 I1.hok rp ei
    have k1 := S.keeps T1 H1 (Ex.rfl' hr1.ok)
    obtain ⟨Pv, sr, lt, _⟩ := S.read H1 s1.heap I1.hok I1.kIn k1
    refine (S.B.begins Pv).iter _ _ _ _ s1 _ sr ?_
    exact pi_one (tk := s1.toks) I1 _ (turn_src S fun hm => Nat.lt_irrefl _ (lt _ hm)) (S.B.start _ _ (Heap.get?_push_size _ (S.B.begins Pv).free)) (q _ (wk_src (h := h1) S rp))
theorem pair_laid {T : Tie} {h : MH} {H : Hp} (hr : Hrel G T h H) {p : Addr} (hp : H p = none) {ws : List W} {vs : List V} (r : Reps G T H ws vs) :
    Hrel G T h (upd H p (.tup vs)) /\ Ex T T H (upd H p (.tup vs)) /\ Rep G T (upd H p (.tup vs)) (.tup ws) (.ref p) := by
  have g : Grow H (upd H p (.tup vs)) := Grow.laid hp
  have x := Ex.grow hr.ok g
  refine ⟨hr.grow g, x, ?_⟩
  unfold Rep
  exact ⟨p, vs, rfl, hr.ok.fresh hp, upd_same, reps_ex x _ _ r⟩
theorem list_laid {T : Tie} {h : MH} {H : Hp} (hr : Hrel G T h H) {p : Addr} (hp : H p = none) {ws : List W} {vs : List V} (r : Reps G T H ws vs) :
    Hrel G T h (upd H p (.lst vs)) /\ Ex T T H (upd H p (.lst vs)) /\ Rep G T (upd H p (.lst vs)) (.lst ws) (.ref p) := by
  have g : Grow H (upd H p (.lst vs)) := Grow.laid hp
  have x := Ex.grow hr.ok g
  refine ⟨hr.grow g, x, ?_⟩
  unfold Rep
  exact ⟨p, vs, rfl, hr.ok.fresh hp, upd_same, reps_ex x _ _ r⟩
def zipW : List W -> List W -> List W
  | x :: r, y :: q => .tup [x, y] :: zipW r q
  | _, _ => []
theorem zipW_len : ∀ l r : List W, (zipW l r).length = min l.length r.length
  | [], _ => by simp [zipW]
  | _ :: _, [] => by simp [zipW]
  | x :: l, y :: r => by simp [zipW, zipW_len l r]
theorem zipW_get : ∀ (l r : List W) (i : Nat) (w : W), (zipW l r)[i]? = some w -> ∃ x y, l[i]? = some x /\ r[i]? = some y /\ w = .tup [x, y]
  | [], _, i, w, h => by simp [zipW] at h
  | _ :: _, [], i, w, h => by simp [zipW] at h
  | x :: l, y :: r, 0, w, h => by simp [zipW] at h; exact ⟨x, y, rfl, rfl, h.symm⟩
  | x :: l, y :: r, i + 1, w, h => by
    simp only [zipW, List.getElem?_cons_succ] at h ⊢
    exact zipW_get l r i w h
def mZip (as : AM) : AM := fun me h => (as me h).bind fun xs h => match xs with
  | [a, b] => match itemsOf a, itemsOf b with
    | some u, some v => .ok (zipW u v) h
    | _, _ => .stuck
  | _ => .stuck
section
variable {T : Tie} {H : Hp} {x x2 : W} {v v2 : V} {u u2 : Value} {ws ws2 : List W} {kn kn2 : Hp -> Prop} {o o2 : Obj} {It It2 : Addr -> Nat -> Heap -> Prop} {F F2 : List Addr} {Sr Sr2 : (Nat -> Value -> Prop) -> Heap -> Prop}
theorem turn_zipS {elts : List Expr} {kk : Nat} {tpos : Pos} (S : Srcd G T H x v ws u kn o It F Sr) (S2 : Srcd G T H x2 v2 ws2 u2 kn2 o2 It2 F2 Sr2) {N : Nat} (h1 : ∀ b ∈ F, b < N) (h2 : ∀ b ∈ F2, b < N) :
    Turn G.P G.w G.K (.Tuple elts kk tpos) (Jp (min ws.length ws2.length) (fun H => kn H /\ kn2 H) (fun i H a b => Pr1 G x v ws i H a /\ Pr1 G x2 v2 ws2 i H b)) [N + 4, N + 2, N + 3, N, N + 1] (N + 4)
      (fun i h => IsZip h (N + 4) (N + 2) (N + 3) .none /\ IsTupOf2 h (N + 2) (.ref N) (.ref (N + 1)) /\ (∃ a1 a2, IsTupOf2 h (N + 3) a1 a2) /\ It N i h /\ It2 (N + 1) i h) := by
  have n1 : N ∉ F := fun m => Nat.lt_irrefl _ (h1 _ m)
  have n2 : N + 1 ∉ F2 := fun m => Nat.not_lt.mpr (Nat.le_succ N) (h2 _ m)
  refine turn_pairs (by simp) (fun i h st b hb => ?_) (fun i h h' st hk => ?_) (fun A H h i hh ok kin kn st hi => ?_) fun A i s Q E st hQ => wpAny_pyIter_zip st.1 hQ
  · obtain ⟨hz, hTI, ⟨a1, a2, hTO⟩, st1, st2⟩ := st
    have e' : b = N + 4 \/ b = N + 2 \/ b = N + 3 \/ b = N \/ b = N + 1 := by simpa using hb
    rcases e' with q | q | q | q | q
    · rw [q]; exact ⟨_, hz, fun v q => nomatch q⟩
    · rw [q]; exact ⟨_, hTI, fun v q => nomatch q⟩
    · rw [q]; exact ⟨_, hTO, fun v q => nomatch q⟩
    · rw [q]; exact S.B.cell _ i h st1
    · rw [q]; exact S2.B.cell _ i h st2
  · obtain ⟨hz, hTI, ⟨a1, a2, hTO⟩, st1, st2⟩ := st
    exact ⟨hk _ (by simp) _ hz, hk _ (by simp) _ hTI, ⟨a1, a2, hk _ (by simp) _ hTO⟩, S.B.at_ _ i h h' st1 fun o e => hk N (by simp) o e, S2.B.at_ _ i h h' st2 fun o e => hk (N + 1) (by simp) o e⟩
  · obtain ⟨Pv, sr, _, pv⟩ := S.read H h ok kin kn.1
    obtain ⟨Pv2, sr2, _, pv2⟩ := S2.read H h ok kin kn.2
    have D1 := S.B.draws A.in1 hh Pv N n1
    have D2 := S2.B.draws A.in1 hh Pv2 (N + 1) n2
    obtain ⟨hz, hTI, hTO, st1, st2⟩ := st
    refine ⟨_, fun i x y => Pv i x /\ Pv2 i y, _, _, (GoesN.zip2 (zip_sep2 h1 h2) D1 D2).mono fun i h₀ v h _ ⟨T, x, y, ev, hn, hx, hy, hT⟩ => ⟨T, x, y, ev, hn, ⟨hx, hy⟩, hT⟩, ⟨hz, hTI, hTO, ⟨st1, sr⟩, ⟨st2, sr2⟩⟩, fun b hb => ?_, fun j h' ⟨a, b, c, d, e⟩ => ⟨a, b, c, d.1, e.1⟩, fun i y y2 hy => ?_⟩
    · simp at hb ⊢
      rcases hb with z | z | z | z <;> simp [z]
    · obtain ⟨a, ra, f⟩ := pv i y hy.1
      obtain ⟨a2, ra2, f2⟩ := pv2 i y2 hy.2
      exact ⟨a, a2, ra, ra2, f, f2⟩
theorem wk_zip {h : MH} (S : Srcd G T H x v ws u kn o It F Sr) (S2 : Srcd G T H x2 v2 ws2 u2 kn2 o2 It2 F2 Sr2) (rp : Rep G T H x v) (rp2 : Rep G T H x2 v2) :
    Wk G T H (zipW ws ws2) (Jp (min ws.length ws2.length) (fun H => kn H /\ kn2 H) (fun i H a b => Pr1 G x v ws i H a /\ Pr1 G x2 v2 ws2 i H b)) where
  go := fun T' H' i ok x' hi => ⟨by rw [zipW_len] at hi; exact hi, S.keeps T' H' x', S2.keeps T' H' x'⟩
  stop := fun T' H' ok x' => ⟨zipW_len _ _, S.keeps T' H' x', S2.keeps T' H' x'⟩
  yld := fun T' H' i y H'' h w hr x' ew yl => by
    obtain ⟨p, a, b, rfl, hp, rfl, f, f2⟩ := yl
    obtain ⟨z, z2, ez, ez2, rfl⟩ := zipW_get _ _ _ _ ew
    obtain ⟨y, ey, ry⟩ := f T' (rep_ex x' _ _ rp)
    obtain ⟨y2, ey2, ry2⟩ := f2 T' (rep_ex x' _ _ rp2)
    rw [ez] at ey
    rw [ez2] at ey2
    cases ey
    cases ey2
    exact pair_laid hr hp (.cons ry (.cons ry2 .nil))
end
theorem mi_zip {e e2 : Expr} {as : AM} {p pos tpos : Pos} {elts : List Expr} {kk : Nat} (hg : Gl X "zip") (hm : X.mg "zip" = none) (ha : MA X adr Y [e, e2] as)
    (hs : starEach [e, e2] X.env = (false, eval e X.env) :: starEach [e2] X.env := by rfl) (hpl : (backTo pos (starEach [e2] X.env)).any (·.1) = false := by rfl) :
    MI X adr Y (.Tuple elts kk tpos) (.Call (.Name "zip" p) [e, e2] [] pos) (mZip as) := by
  refine ⟨fun pins s σ H R I ⟨T, me, h, hr, hE, q⟩ => ?_⟩
  refine Call_ (ld_blt I hg hm PyProof.Rows.boot_zip (PyProof.Rows.callWith_type1 (thn (ha.run pos pins s σ H (fun vs H1 => ∃ T1 h1 xs, Hrel (kt X adr) T1 h1 H1 /\ Reps (kt X adr) T1 H1 xs vs /\ ∃ a b u v, xs = [a, b] /\ itemsOf a = some u /\ itemsOf b = some v /\ ∀ J, Wk (kt X adr) T1 H1 (zipW u v) J -> R J H1) I
    ⟨T, me, h, hr, hE, Res.bind q fun ws h1 _ T1 H1 vs hr1 x1 rp1 q1 => ?_⟩) fun us s1 ⟨vs, H1, I1, r1, T1, h1, xs, hr1, rp, a, b, iu, iv, ex, ea, eb, q⟩ => ?_) hs hpl))
  · refine ⟨T1, h1, ws, hr1, rp1, ?_⟩
    split at q1
    · split at q1
      · exact ⟨_, _, _, _, rfl, by assumption, by assumption, fun J wk => q1 T1 H1 J hr1 (Ex.rfl' hr1.ok) wk⟩
      · exact q1.elim
    · exact q1.elim
  · subst ex
    unfold Reps at rp
    obtain ⟨va, s', rfl, ra, rp⟩ := rp
    unfold Reps at rp
    obtain ⟨vb, s'', rfl, rb, rp⟩ := rp
    unfold Reps at rp
    subst rp
    obtain ⟨ua, ub, rfl, r2, r3⟩ := Vals.two r1
    obtain ⟨kn, o, It, F, Sr, S⟩ := src_of (G := kt X adr) r2 I1.hok ra ea
    obtain ⟨kn2, o2, It2, F2, Sr2, S2⟩ := src_of (G := kt X adr) r3 I1.hok rb eb
    obtain ⟨Pv, sr, lt, _⟩ := S.read H1 s1.heap I1.hok I1.kIn (S.keeps T1 H1 (Ex.rfl' hr1.ok))
    obtain ⟨Pv2, sr2, lt2, _⟩ := S2.read H1 s1.heap I1.hok I1.kIn (S2.keeps T1 H1 (Ex.rfl' hr1.ok))
    have B := S.B.begins Pv
    have B2 := S2.B.begins Pv2
    refine zip_begins2 B B2 sr sr2 fun h' hz hTI hTO h1' h2' hsz hk => wpAny_pyIter_zip hz ?_
    have I2 : Inv X pins σ H1 { s1 with heap := h' } := I1.kept (t' := s1.toks) hk
    refine ⟨s1.heap.objs.size + 4, [s1.heap.objs.size + 4, s1.heap.objs.size + 2, s1.heap.objs.size + 3, s1.heap.objs.size, s1.heap.objs.size + 1], _, _, H1, rfl, I2, turn_zipS S S2 lt lt2, ⟨hz, hTI, ⟨_, _, hTO⟩, S.B.start _ _ h1', S2.B.start _ _ h2'⟩, fun c hcm => ?_, q _ (wk_zip (h := h1) S S2 ra rb)⟩
    have e' : c = s1.heap.objs.size + 4 \/ c = s1.heap.objs.size + 2 \/ c = s1.heap.objs.size + 3 \/ c = s1.heap.objs.size \/ c = s1.heap.objs.size + 1 := by simpa using hcm
    have hle : s1.heap.objs.size <= c := by
      rcases e' with z | z | z | z | z
      · rw [z]; exact Nat.le_add_right _ _
      · rw [z]; exact Nat.le_add_right _ _
      · rw [z]; exact Nat.le_add_right _ _
      · rw [z]; exact Nat.le_refl _
      · rw [z]; exact Nat.le_add_right _ _
    exact I1.fpOk hle (I1.hok.fresh hle)
end Mi
end
section
namespace Mi
open PySem PySem.Spec PyProof.Rows L2
variable {G : Kt} {X : Cx} {adr : Ad} {Y : WX}
def mItems (m : EM) : AM := fun me h => (m me h).bind fun w h => match w with
  | .dct ks vs => .ok (zipW ks vs) h
  | _ => .stuck
section
variable {T : Tie} {H : Hp} {K : PySem.W.Frag}
def PrI (G : Kt) (x : W) (v : V) (ks vs : List W) (i : Nat) (H : Hp) (a b : V) : Prop := ∀ T, Rep G T H x v -> ∃ k z, ks[i]? = some k /\ vs[i]? = some z /\ Rep G T H k a /\ Rep G T H z b
theorem turn_itemsS {elts : List Expr} {kk : Nat} {tpos : Pos} {ks vs : List W} {d : Addr} {o : Obj} {es : Array DictEntry} {ep : Nat} (xd : o.ExactDict) (ed : o.data = .dict es ep) {it : Addr} (hne : d ≠ it) :
    Turn G.P G.w K (.Tuple elts kk tpos) (Jp es.size (fun H => H d = some (exact o d) /\ ∃ T, Rep G T H (.dct ks vs) (.ref d)) (PrI G (.dct ks vs) (.ref d) ks vs)) [it] it (fun i h => ∃ ok ov, IsItemIter h it d i es.size ep ok ov) := by
  refine turn_pairs (by simp) (fun i h st b hb => ?_) (fun i h h' st hk => ?_) (fun A H h i hh ok kin kn st hi => ?_) fun A i s Q E st hQ => let ⟨_, _, e⟩ := st; PySem.W.kcp_self e hQ
  · have e : b = it := by simpa using hb
    subst e
    obtain ⟨_, _, e⟩ := st
    exact ⟨_, e, fun v q => nomatch q⟩
  · obtain ⟨a, b, e⟩ := st
    exact ⟨a, b, hk it (by simp) _ e⟩
  · obtain ⟨kn, T, rp⟩ := kn
    have ea := exact_at ok kn
    refine ⟨_, fun i x y => ∃ hi : i < es.size, x = es[i].key /\ y = es[i].val, [it, d], [it], (GoesN.rawItems hh it d hne es ep).mono fun i h₀ v h _ ⟨T, hi, ev, hn, hT⟩ => ⟨T, _, _, ev, hn, ⟨hi, rfl, rfl⟩, hT⟩, ⟨st, o, ea, xd, ed⟩, fun b hb => hb, fun j h' z => z.1, fun i x y ⟨hi, ex, ey⟩ => ?_⟩
    subst ex ey
    unfold Rep at rp
    obtain ⟨a2, o2, kv2, vv2, e2, f2, sm2, ko2, q2, d2, r3, r4⟩ := rp
    cases e2
    obtain rfl := exact_inj ok kn q2
    obtain ⟨es2, ep2, ed2, en2, _⟩ := d2.raw ea
    rw [ed] at ed2
    cases ed2
    obtain ⟨k2, w2, ek2, ew2, rk2, rw2⟩ := en2.get (i := i) (e := es[i]) (by simp [hi])
    refine ⟨k2, w2, rk2, rw2, fun T rp => ?_⟩
    unfold Rep at rp
    obtain ⟨a2, o2, kv2', vv2', e2, f2, sm2, ko2, q2, d2, r3, r4⟩ := rp
    cases e2
    obtain rfl := exact_inj ok kn q2
    obtain ⟨es2, ep2, ed2, en2', _⟩ := d2.raw ea
    rw [ed] at ed2
    cases ed2
    obtain ⟨k3, w3, ek3, ew3, rk3, rw3⟩ := en2'.get (i := i) (e := es[i]) (by simp [hi])
    obtain rfl := rk2.inj rk3
    obtain rfl := rw2.inj rw3
    obtain ⟨k, ek, r1⟩ := r3.getL ek3
    obtain ⟨w, ew, r2⟩ := r4.getL ew3
    exact ⟨k, w, ek, ew, r1, r2⟩
theorem wk_items {ks vs : List W} {d : Addr} {o : Obj} {n : Nat} (e1 : ks.length = n) (e2 : vs.length = n) (q : H d = some (exact o d)) (f : Fz T d) (rp : Rep G T H (.dct ks vs) (.ref d)) :
    Wk G T H (zipW ks vs) (Jp n (fun H => H d = some (exact o d) /\ ∃ T, Rep G T H (.dct ks vs) (.ref d)) (PrI G (.dct ks vs) (.ref d) ks vs)) where
  go := fun T' H' i ok x' hi => ⟨by rw [zipW_len, e1, e2, Nat.min_self] at hi; exact hi, x'.fz _ _ q f, T', rep_ex x' _ _ rp⟩
  stop := fun T' H' ok x' => ⟨by rw [zipW_len, e1, e2, Nat.min_self], x'.fz _ _ q f, T', rep_ex x' _ _ rp⟩
  yld := fun T' H' i y H'' h w hr x' ew yl => by
    obtain ⟨p, a, b, rfl, hp, rfl, f⟩ := yl
    obtain ⟨z, z2, ez, ez2, rfl⟩ := zipW_get _ _ _ _ ew
    obtain ⟨k, y, ek, ey, rk, ry⟩ := f T' (rep_ex x' _ _ rp)
    rw [ez] at ek
    rw [ez2] at ey
    cases ek
    cases ey
    exact pair_laid hr hp (.cons rk (.cons ry .nil))
end
theorem mi_items {e : Expr} {m : EM} {apos cpos tpos : Pos} {elts : List Expr} {kk : Nat} (he : ME X adr Y e m) (hbase : attributeBase e "items" X.env (eval e X.env) = eval e X.env := by rfl) (hline : (apos.endLine == cpos.line) = true := by rfl) :
    MI X adr Y (.Tuple elts kk tpos) (.Call (.Attribute e "items" apos) [] [] cpos) (mItems m) := by
  refine ⟨fun pins s σ H R I ⟨T, me, h, hr, hE, q⟩ => ?_⟩
  refine wpAny_Call_method (T := "dict") (id := "dict.items") hbase rfl hline F.plainAttrs_dict F.slot_dict_items F.type_dict_items (thn (he.run pins s σ H (fun v H1 => ∃ T1 h1 ks vs, Hrel (kt X adr) T1 h1 H1 /\ Rep (kt X adr) T1 H1 (.dct ks vs) v /\ ∀ J, Wk (kt X adr) T1 H1 (zipW ks vs) J -> R J H1) I ⟨T, me, h, hr, hE, Res.bind q fun w h1 _ T1 H1 v hr1 x1 rp1 q1 => ?_⟩)
    fun u s1 ⟨v, H1, I1, r1, T1, h1, ks, vs, hr1, rp, q⟩ => ?_)
  · cases w with
    | dct ks vs => exact ⟨T1, h1, ks, vs, hr1, rp1, fun J wk => q1 T1 H1 J hr1 (Ex.rfl' hr1.ok) wk⟩
    | _ => exact q1.elim
  · have rp' := rp
    unfold Rep at rp
    obtain ⟨a, o, kv, vv, rfl, f, sm, ko, qa, d, r2, r3⟩ := rp
    obtain rfl : u = .ref a := r1
    have ea := exact_at I1.hok qa
    obtain ⟨es, ep, ed, en, dr⟩ := d.raw ea
    have l1 : ks.length = es.size := by
      have h1 := r2.length
      have h2 := en.len.1
      simp at h2; omega
    have l2 : vs.length = es.size := by
      have h1 := r3.length
      have h2 := en.len.2
      simp at h2; omega
    refine ⟨dr.typeIs, fun a_1 e => by cases e; exact ⟨o, ea, d.1.2.1⟩, ?_⟩
    have I2 : Inv X pins σ H1 { s1 with heap := s1.heap.push { cls := .type "dict_items", data := .fields #[.ref a] } } := I1.kept (t' := s1.toks) fun b ob q => Heap.get?_push_of_some _ q
    have dr2 : (s1.heap.push { cls := .type "dict_items", data := .fields #[.ref a] }).DictRaw a es ep := dr.at fun o e => Heap.get?_push_of_some _ e
    have hne : a ≠ (s1.heap.push { cls := .type "dict_items", data := .fields #[.ref a] }).objs.size := Nat.ne_of_lt (by rw [Heap.size_push]; exact Nat.lt_succ_of_lt (Heap.lt_size ea))
    have fin : wpAny (model X.prog X.w) X.A (pyIter (.ref s1.heap.objs.size)) (PIE X pins σ (.Tuple elts kk tpos) R) X.xe { s1 with heap := s1.heap.push { cls := .type "dict_items", data := .fields #[.ref a] } } := by
      refine wpAny_pyIter_items_raw (d := a) ⟨_, Heap.get?_push_size _ rfl, rfl, rfl⟩ dr2 (pi_one (tk := s1.toks) I2 _ (turn_itemsS (G := kt X adr) (ks := ks) (vs := vs) d.1 ed hne) ⟨.none, .none, ?_⟩ (q _ (wk_items l1 l2 qa f rp')))
      exact Heap.get?_push_size _ rfl
    show wpAny _ _ (callWith cpos (.builtin "dict.items") [.ref a] [] []) _ X.xe s1
    exact method_meetsIn F.slot_dict_items F.entry_dict_items rfl (PySem.evalArgs_none ⟨rfl, dr.typeIs, F.args_dict_items_1 _, _, meets_dict_items_raw a sm, ⟨es, ep, dr⟩, fin⟩)
def rangeW (lo : Int) : Nat -> List W
  | 0 => []
  | n + 1 => .int lo :: rangeW (lo + 1) n
theorem rangeW_len : ∀ (lo : Int) (n : Nat), (rangeW lo n).length = n
  | _, 0 => rfl
  | lo, n + 1 => by simp [rangeW, rangeW_len (lo + 1) n]
theorem rangeW_get : ∀ (lo : Int) (n i : Nat) (w : W), (rangeW lo n)[i]? = some w -> w = .int (lo + i)
  | _, 0, i, w, h => by simp [rangeW] at h
  | lo, n + 1, 0, w, h => by simp [rangeW] at h; subst h; simp
  | lo, n + 1, i + 1, w, h => by
    simp only [rangeW, List.getElem?_cons_succ] at h
    rw [rangeW_get (lo + 1) n i w h]
    congr 1
    omega
theorem wk_range {T : Tie} {H : Hp} (lo : Int) (n : Nat) : Wk G T H (rangeW lo n) (Itr lo n) where
  go := fun T' H' i ok x' hi => by rw [rangeW_len] at hi; exact hi
  stop := fun T' H' ok x' => by rw [rangeW_len]; exact Nat.le_refl _
  yld := fun T' H' i y H'' h w hr x' ew yl => by
    obtain ⟨rfl, rfl⟩ := yl
    obtain rfl := rangeW_get _ _ _ _ ew
    exact ⟨hr, Ex.rfl' hr.ok, by unfold Rep; rfl⟩
def fit62 (i : Int) : Bool := decide (-(2 ^ 62) <= i) && decide (i < 2 ^ 62)
theorem fit62_iff {i : Int} (h : fit62 i = true) : -(2 ^ 62) <= i /\ i < 2 ^ 62 := by
  unfold fit62 at h
  rw [Bool.and_eq_true] at h
  exact ⟨of_decide_eq_true h.1, of_decide_eq_true h.2⟩
def rIf (b : Bool) (ws : List W) (h : MH) : R (List W) := match b with
  | true => .ok ws h
  | false => .stuck
def mRng1 (as : AM) : AM := fun me h => (as me h).bind fun xs h => match xs with
  | [.int j] => rIf (fit62 j) (rangeW 0 j.toNat) h
  | _ => .stuck
def mRng2 (as : AM) : AM := fun me h => (as me h).bind fun xs h => match xs with
  | [.int i, .int j] => rIf (fit62 i && fit62 j) (rangeW i (j - i).toNat) h
  | _ => .stuck
theorem reps_int1 {T : Tie} {H : Hp} {i : Int} {vs : List V} (r : Reps G T H [.int i] vs) : vs = [.int i] := by
  unfold Reps at r
  obtain ⟨v, s, rfl, h, r⟩ := r
  unfold Reps at r
  unfold Rep at h
  rw [h, r]
theorem reps_int2 {T : Tie} {H : Hp} {i j : Int} {vs : List V} (r : Reps G T H [.int i, .int j] vs) : vs = [.int i, .int j] := by
  unfold Reps at r
  obtain ⟨v, s, rfl, h, r⟩ := r
  unfold Rep at h
  rw [reps_int1 r, h]
theorem mi_range1 {tg a : Expr} {as : AM} {p pos : Pos} (hg : Gl X "range") (hm : X.mg "range" = none) (ha : MA X adr Y [a] as) (hs : starEach [a] X.env = [(false, eval a X.env)] := by rfl) : MI X adr Y tg (.Call (.Name "range" p) [a] [] pos) (mRng1 as) :=
  pi_imp (pi_range1 hg hm ha hs) fun σ H R ⟨T, me, h, hr, hE, q⟩ => ⟨T, me, h, hr, hE, Res.bind q fun ws h1 _ T1 H1 vs hr1 x1 rp1 q1 => by
    split at q1
    · rename_i j _
      cases e : fit62 j with
      | true =>
        rw [e] at q1
        obtain rfl := reps_int1 rp1
        exact ⟨j, rfl, (fit62_iff e).1, (fit62_iff e).2, q1 T1 H1 _ hr1 (Ex.rfl' hr1.ok) (wk_range 0 j.toNat)⟩
      | false => rw [e] at q1; exact q1.elim
    · exact q1.elim⟩
theorem mi_range2 {tg a b : Expr} {as : AM} {p pos : Pos} (hg : Gl X "range") (hm : X.mg "range" = none) (ha : MA X adr Y [a, b] as) (hs : starEach [a, b] X.env = [(false, eval a X.env), (false, eval b X.env)] := by rfl) (hs2 : starEach [b] X.env = [(false, eval b X.env)] := by rfl) :
    MI X adr Y tg (.Call (.Name "range" p) [a, b] [] pos) (mRng2 as) :=
  pi_imp (pi_range2 hg hm ha hs hs2) fun σ H R ⟨T, me, h, hr, hE, q⟩ => ⟨T, me, h, hr, hE, Res.bind q fun ws h1 _ T1 H1 vs hr1 x1 rp1 q1 => by
    split at q1
    · rename_i i j _
      cases e : fit62 i && fit62 j with
      | true =>
        rw [e] at q1
        rw [Bool.and_eq_true] at e
        obtain rfl := reps_int2 rp1
        exact ⟨i, j, rfl, ⟨(fit62_iff e.1).1, (fit62_iff e.1).2, (fit62_iff e.2).1, (fit62_iff e.2).2⟩, q1 T1 H1 _ hr1 (Ex.rfl' hr1.ok) (wk_range i (j - i).toNat)⟩
      | false => rw [e] at q1; exact q1.elim
    · exact q1.elim⟩
end Mi
end
section
namespace Mi
open PySem PySem.Spec PyProof.Rows L2
variable {G : Kt} {X : Cx} {adr : Ad} {Y : WX}
def weqL (f : W -> W -> Option Bool) : List W -> List W -> Option Bool
  | [], [] => some true
  | x :: xs, y :: ys => match f x y with
    | some a => match weqL f xs ys with
      | some b => some (a && b)
      | none => none
    | none => none
  | _, _ => some false
def kindW : W -> Nat
  | .non => 0
  | .bl _ => 1
  | .int _ => 2
  | .str _ => 3
  | .tup _ => 4
  | .lst _ => 5
  | _ => 6
def unlike (a b : W) : Option Bool := match Nat.ble (kindW a) 5 && Nat.ble (kindW b) 5 with
  | true => some false
  | false => none
def weq : Nat -> W -> W -> Option Bool
  | 0, _, _ => none
  | n + 1, a, b => match a with
    | .int i => match b with
      | .int j => some (decide (i = j))
      | .bl k => some (decide (i = if k then 1 else 0))
      | b => unlike a b
    | .str x => match b with
      | .str y => some (strEq x y)
      | b => unlike a b
    | .tup xs => match b with
      | .tup ys => weqL (weq n) xs ys
      | b => unlike a b
    | .lst xs => match b with
      | .lst ys => weqL (weq n) xs ys
      | b => unlike a b
    | .bl k => match b with
      | .bl l => some (k == l)
      | .int j => some (decide ((if k then 1 else 0) = j))
      | b => unlike a b
    | .non => match b with
      | .non => some true
      | b => unlike a b
    | a => unlike a b
inductive Kd (h : Heap) : Nat -> Value -> Prop
  | non : Kd h 0 .none
  | bl (b : Bool) : Kd h 1 (.bool b)
  | int (i : Int) (t : Tok) : Kd h 2 (.int i t)
  | str (x : Str) (t : Tok) : Kd h 3 (.str x t)
  | tup {a : Addr} {its : Array Value} (q : h.IsTuple a its) : Kd h 4 (.ref a)
  | lst {a : Addr} {its : Array Value} (q : h.IsList a its) : Kd h 5 (.ref a)
theorem Kd.inj {h : Heap} {i j : Nat} {u : Value} (h1 : Kd h i u) (h2 : Kd h j u) : i = j := by
  cases h1 <;> cases h2 <;> try rfl
  · rename_i q1 _ q2
    obtain ⟨o, e, c, _⟩ := q1
    obtain ⟨o2, e2, c2, _⟩ := q2
    rw [e] at e2; cases e2; rw [c] at c2; exact absurd c2 (by decide)
  · rename_i q1 _ q2
    obtain ⟨o, e, c, _⟩ := q1
    obtain ⟨o2, e2, c2, _⟩ := q2
    rw [e] at e2; cases e2; rw [c] at c2; exact absurd c2 (by decide)
open SeqAt in
theorem cross {A : Around} {s : Shared} (hu : A.units < cLine) : ∀ {i j : Nat} {u v : Value}, Kd s.heap i u -> Kd s.heap j v -> i ≠ j -> ¬ (i = 1 /\ j = 2) -> ¬ (i = 2 /\ j = 1) -> RcAt A s u v false /\ RcNeAt A s u v true /\ EqAt A s u v false
  | _, _, _, _, .non , .bl b2, _, _, _ => ⟨RcAt.none_bool b2, RcNeAt.none_bool b2, EqAt.none_bool b2⟩
  | _, _, _, _, .non , .int i2 t2, _, _, _ => ⟨RcAt.none_int i2 t2, RcNeAt.none_int i2 t2, EqAt.none_int i2 t2⟩
  | _, _, _, _, .non , .str x2 t2, _, _, _ => ⟨RcAt.none_str x2 t2, RcNeAt.none_str x2 t2, EqAt.none_str x2 t2⟩
  | _, _, _, _, .non , .tup  h2, _, _, _ => ⟨RcAt.none_tuple h2 hu, RcNeAt.none_tuple h2 hu, EqAt.none_tuple h2 hu⟩
  | _, _, _, _, .non , .lst  h2, _, _, _ => ⟨RcAt.none_list h2 hu, RcNeAt.none_list h2 hu, EqAt.none_list h2 hu⟩
  | _, _, _, _, .bl b1, .non , _, _, _ => ⟨RcAt.bool_none b1, RcNeAt.bool_none b1, EqAt.bool_none b1⟩
  | _, _, _, _, .bl b1, .str x2 t2, _, _, _ => ⟨RcAt.bool_str b1 x2 t2, RcNeAt.bool_str b1 x2 t2, EqAt.bool_str b1 x2 t2⟩
  | _, _, _, _, .bl b1, .tup  h2, _, _, _ => ⟨RcAt.bool_tuple b1 h2 hu, RcNeAt.bool_tuple b1 h2 hu, EqAt.bool_tuple b1 h2 hu⟩
  | _, _, _, _, .bl b1, .lst  h2, _, _, _ => ⟨RcAt.bool_list b1 h2 hu, RcNeAt.bool_list b1 h2 hu, EqAt.bool_list b1 h2 hu⟩
  | _, _, _, _, .int i1 t1, .non , _, _, _ => ⟨RcAt.int_none i1 t1, RcNeAt.int_none i1 t1, EqAt.int_none i1 t1⟩
  | _, _, _, _, .int i1 t1, .str x2 t2, _, _, _ => ⟨RcAt.int_str i1 t1 x2 t2, RcNeAt.int_str i1 t1 x2 t2, EqAt.int_str i1 t1 x2 t2⟩
  | _, _, _, _, .int i1 t1, .tup  h2, _, _, _ => ⟨RcAt.int_tuple i1 t1 h2 hu, RcNeAt.int_tuple i1 t1 h2 hu, EqAt.int_tuple i1 t1 h2 hu⟩
  | _, _, _, _, .int i1 t1, .lst  h2, _, _, _ => ⟨RcAt.int_list i1 t1 h2 hu, RcNeAt.int_list i1 t1 h2 hu, EqAt.int_list i1 t1 h2 hu⟩
  | _, _, _, _, .str x1 t1, .non , _, _, _ => ⟨RcAt.str_none x1 t1, RcNeAt.str_none x1 t1, EqAt.str_none x1 t1⟩
  | _, _, _, _, .str x1 t1, .bl b2, _, _, _ => ⟨RcAt.str_bool x1 t1 b2, RcNeAt.str_bool x1 t1 b2, EqAt.str_bool x1 t1 b2⟩
  | _, _, _, _, .str x1 t1, .int i2 t2, _, _, _ => ⟨RcAt.str_int x1 t1 i2 t2, RcNeAt.str_int x1 t1 i2 t2, EqAt.str_int x1 t1 i2 t2⟩
  | _, _, _, _, .str x1 t1, .tup  h2, _, _, _ => ⟨RcAt.str_tuple x1 t1 h2 hu, RcNeAt.str_tuple x1 t1 h2 hu, EqAt.str_tuple x1 t1 h2 hu⟩
  | _, _, _, _, .str x1 t1, .lst  h2, _, _, _ => ⟨RcAt.str_list x1 t1 h2 hu, RcNeAt.str_list x1 t1 h2 hu, EqAt.str_list x1 t1 h2 hu⟩
  | _, _, _, _, .tup  h1, .non , _, _, _ => ⟨RcAt.tuple_none h1 hu, RcNeAt.tuple_none h1 hu, EqAt.tuple_none h1 hu⟩
  | _, _, _, _, .tup  h1, .bl b2, _, _, _ => ⟨RcAt.tuple_bool b2 h1 hu, RcNeAt.tuple_bool b2 h1 hu, EqAt.tuple_bool b2 h1 hu⟩
  | _, _, _, _, .tup  h1, .int i2 t2, _, _, _ => ⟨RcAt.tuple_int i2 t2 h1 hu, RcNeAt.tuple_int i2 t2 h1 hu, EqAt.tuple_int i2 t2 h1 hu⟩
  | _, _, _, _, .tup  h1, .str x2 t2, _, _, _ => ⟨RcAt.tuple_str x2 t2 h1 hu, RcNeAt.tuple_str x2 t2 h1 hu, EqAt.tuple_str x2 t2 h1 hu⟩
  | _, _, _, _, .tup  h1, .lst  h2, _, _, _ => ⟨RcAt.tuple_list h1 h2 hu, RcNeAt.tuple_list h1 h2 hu, EqAt.tuple_list h1 h2 hu⟩
  | _, _, _, _, .lst  h1, .non , _, _, _ => ⟨RcAt.list_none h1 hu, RcNeAt.list_none h1 hu, EqAt.list_none h1 hu⟩
  | _, _, _, _, .lst  h1, .bl b2, _, _, _ => ⟨RcAt.list_bool b2 h1 hu, RcNeAt.list_bool b2 h1 hu, EqAt.list_bool b2 h1 hu⟩
  | _, _, _, _, .lst  h1, .int i2 t2, _, _, _ => ⟨RcAt.list_int i2 t2 h1 hu, RcNeAt.list_int i2 t2 h1 hu, EqAt.list_int i2 t2 h1 hu⟩
  | _, _, _, _, .lst  h1, .str x2 t2, _, _, _ => ⟨RcAt.list_str x2 t2 h1 hu, RcNeAt.list_str x2 t2 h1 hu, EqAt.list_str x2 t2 h1 hu⟩
  | _, _, _, _, .lst  h1, .tup  h2, _, _, _ => ⟨RcAt.list_tuple h1 h2 hu, RcNeAt.list_tuple h1 h2 hu, EqAt.list_tuple h1 h2 hu⟩
  | _, _, _, _, .non , .non , ne, _, _ => absurd rfl ne
  | _, _, _, _, .bl _, .bl _, ne, _, _ => absurd rfl ne
  | _, _, _, _, .int _ _, .int _ _, ne, _, _ => absurd rfl ne
  | _, _, _, _, .str _ _, .str _ _, ne, _, _ => absurd rfl ne
  | _, _, _, _, .tup  _, .tup  _, ne, _, _ => absurd rfl ne
  | _, _, _, _, .lst  _, .lst  _, ne, _, _ => absurd rfl ne
  | _, _, _, _, .bl _, .int _ _, _, nb, _ => absurd ⟨rfl, rfl⟩ nb
  | _, _, _, _, .int _ _, .bl _, _, _, nb => absurd ⟨rfl, rfl⟩ nb
theorem kd_of {P : Program} {wo : World} {T : Tie} {H : Hp} {h : Heap} (ok : HOk P wo H h) {w : W} {v : V} {u : Value} (rp : Rep G T H w v) (r : RelV v u) (k : Nat.ble (kindW w) 5 = true) : Kd h (kindW w) u := by
  cases w with
  | non => unfold Rep at rp; subst rp; cases r; exact .non
  | bl b => unfold Rep at rp; subst rp; cases r; exact .bl b
  | int i => unfold Rep at rp; subst rp; obtain ⟨t, rfl⟩ := r; exact .int i t
  | str x => unfold Rep at rp; subst rp; obtain ⟨t, rfl⟩ := r; exact .str x t
  | tup ws =>
    unfold Rep at rp
    obtain ⟨a, vs, rfl, f, q, _⟩ := rp
    obtain rfl : u = .ref a := r
    obtain ⟨_, its, rv, p⟩ := ok _ _ q
    exact .tup (its := its.toArray) p
  | lst ws =>
    unfold Rep at rp
    obtain ⟨a, vs, rfl, f, q, _⟩ := rp
    obtain rfl : u = .ref a := r
    obtain ⟨_, its, n, rv, p⟩ := ok _ _ q
    exact .lst (its := its.toArray) ⟨_, p, rfl, _, rfl⟩
  | _ => exact nomatch k
theorem unlike_kd {a b : W} {k : Bool} (h : unlike a b = some k) : k = false /\ Nat.ble (kindW a) 5 = true /\ Nat.ble (kindW b) 5 = true := by
  unfold unlike at h
  split at h
  · rename_i e
    rw [Bool.and_eq_true] at e
    cases h
    exact ⟨rfl, e⟩
  · cases h
theorem weqL_at {f : W -> W -> Option Bool} : ∀ {xs ys : List W} {b : Bool}, weqL f xs ys = some b -> ∃ e : Nat -> Bool, (∀ j x y, xs[j]? = some x -> ys[j]? = some y -> f x y = some (e j)) /\ ((List.range (min xs.length ys.length)).all e && (xs.length == ys.length)) = b
  | [], [], b, h => by cases h; exact ⟨fun _ => true, fun j x y h => by simp at h, rfl⟩
  | [], y :: ys, b, h => by cases h; exact ⟨fun _ => true, fun j x y h => by simp at h, by simp⟩
  | x :: xs, [], b, h => by cases h; exact ⟨fun _ => true, fun j x y _ h => by simp at h, by simp⟩
  | x :: xs, y :: ys, b, h => by
    unfold weqL at h
    split at h
    · rename_i a ea
      split at h
      · rename_i c e
        obtain ⟨g, g1, g2⟩ := weqL_at e
        cases h
        refine ⟨fun j => match j with | 0 => a | j + 1 => g j, fun j x' y' h1 h2 => ?_, ?_⟩
        · cases j with
          | zero => simp at h1 h2; subst h1 h2; exact ea
          | succ j => exact g1 j x' y' (by simpa using h1) (by simpa using h2)
        · have e1 : min (x :: xs).length (y :: ys).length = min xs.length ys.length + 1 := by simp only [List.length_cons]; omega
          rw [e1, List.range_succ_eq_map, List.all_cons, List.all_map, <- g2]
          simp [Function.comp_def, Bool.and_assoc]
      · cases h
    · cases h
theorem kind_same {P : Program} {w : World} {H : Hp} {h : Heap} (ok : HOk P w H h) {T : Tie} {w1 w2 : W} {v : V} {u : Value} (ru : RelV v u) (r1 : Rep G T H w1 v) (r2 : Rep G T H w2 v) (k1 : Nat.ble (kindW w1) 5 = true) (k2 : Nat.ble (kindW w2) 5 = true) : kindW w1 = kindW w2 :=
  (kd_of ok r1 ru k1).inj (kd_of ok r2 ru k2)
theorem weqL_same {f : W -> W -> Option Bool} {T : Tie} {H : Hp} (ih : ∀ w1 w2 b v, (∃ u, RelV v u) -> f w1 w2 = some b -> Rep G T H w1 v -> Rep G T H w2 v -> b = true) : ∀ {xs ys : List W} {vs : List V} {us : List Value} {b : Bool}, Vals vs us -> weqL f xs ys = some b -> Reps G T H xs vs -> Reps G T H ys vs -> b = true
  | [], [], vs, us, b, _, h, _, _ => by cases h; rfl
  | [], y :: ys, vs, us, b, _, h, r1, r2 => by have := r1.length.trans r2.length.symm; simp at this
  | x :: xs, [], vs, us, b, _, h, r1, r2 => by have := r1.length.trans r2.length.symm; simp at this
  | x :: xs, y :: ys, vs, us, b, rv, h, r1, r2 => by
    unfold Reps at r1 r2
    obtain ⟨v, s, rfl, p1, q1⟩ := r1
    obtain ⟨v2, s2, e, p2, q2⟩ := r2
    cases e
    cases rv with
    | cons rv rvs =>
    unfold weqL at h
    split at h
    · rename_i a ea
      split at h
      · rename_i c e
        cases h
        rw [ih _ _ _ _ ⟨_, rv⟩ ea p1 p2, weqL_same ih rvs e q1 q2]
        rfl
      · cases h
    · cases h
theorem weq_same {P : Program} {w : World} {H : Hp} {h : Heap} (ok : HOk P w H h) : ∀ (n : Nat) {T : Tie} (w1 w2 : W) (b : Bool) (v : V), (∃ u, RelV v u) -> weq n w1 w2 = some b -> Rep G T H w1 v -> Rep G T H w2 v -> b = true
  | 0, _, _, _, _, _, _, h, _, _ => by cases h
  | n + 1, T, w1, w2, b, v, ⟨u, ru⟩, h, r1, r2 => by
    have un : unlike w1 w2 = some b -> kindW w1 = kindW w2 := fun e => by
      obtain ⟨_, k1, k2⟩ := unlike_kd e
      exact kind_same ok ru r1 r2 k1 k2
    unfold weq at h
    cases w1 with
    | int i =>
      cases w2 with
      | int j => unfold Rep at r1 r2; subst r1; cases r2; cases h; simp
      | bl j => unfold Rep at r1 r2; subst r1; cases r2
      | _ => exact absurd (un h) (by unfold kindW; simp)
    | bl i =>
      cases w2 with
      | int j => unfold Rep at r1 r2; subst r1; cases r2
      | bl j => unfold Rep at r1 r2; subst r1; cases r2; cases h; simp
      | _ => exact absurd (un h) (by unfold kindW; simp)
    | non =>
      cases w2 with
      | non => cases h; rfl
      | _ => exact absurd (un h) (by unfold kindW; simp)
    | str i =>
      cases w2 with
      | str j => unfold Rep at r1 r2; subst r1; cases r2; cases h; simp [strEq_eq]
      | _ => exact absurd (un h) (by unfold kindW; simp)
    | tup xs =>
      cases w2 with
      | tup ys =>
        unfold Rep at r1 r2
        obtain ⟨a, vs, rfl, _, q, p1⟩ := r1
        obtain ⟨a2, vs2, e2, _, q2, p2⟩ := r2
        cases e2
        rw [q] at q2
        cases q2
        obtain ⟨_, its, rv, _⟩ := ok _ _ q
        exact weqL_same (fun w1 w2 b v => weq_same ok n w1 w2 b v) rv h p1 p2
      | _ => exact absurd (un h) (by unfold kindW; simp)
    | lst xs =>
      cases w2 with
      | lst ys =>
        unfold Rep at r1 r2
        obtain ⟨a, vs, rfl, _, q, p1⟩ := r1
        obtain ⟨a2, vs2, e2, _, q2, p2⟩ := r2
        cases e2
        rw [q] at q2
        cases q2
        obtain ⟨_, its, _, rv, _⟩ := ok _ _ q
        exact weqL_same (fun w1 w2 b v => weq_same ok n w1 w2 b v) rv h p1 p2
      | _ => exact absurd (un h) (by unfold kindW; simp)
    | _ => exact absurd (unlike_kd h).2.1 (by simp [kindW])
open SeqAt in
theorem weqL_items {A : Around} {s : Shared} {f : W -> W -> Option Bool} {T : Tie} {H : Hp} (ih : ∀ w1 w2 b v1 v2 u1 u2, f w1 w2 = some b -> Rep G T H w1 v1 -> Rep G T H w2 v2 -> RelV v1 u1 -> RelV v2 u2 -> EqAt A s u1 u2 b) {xs ys : List W} {vs vs2 : List V} {us us2 : List Value} (rv : Vals vs us) (rv2 : Vals vs2 us2)
    (r1 : Reps G T H xs vs) (r2 : Reps G T H ys vs2) {e : Nat -> Bool} (he : ∀ j x y, xs[j]? = some x -> ys[j]? = some y -> f x y = some (e j)) : ∀ j (h1 : j < us.toArray.size) (h2 : j < us2.toArray.size), EqAt A s us.toArray[j] us2.toArray[j] (e j) := fun j h1 h2 => by
  have l1 := r1.length.trans rv.length
  have l2 := r2.length.trans rv2.length
  have h1' : j < us.length := by simpa using h1
  have h2' : j < us2.length := by simpa using h2
  have ex : xs[j]? = some xs[j] := List.getElem?_eq_getElem (by omega)
  have ey : ys[j]? = some ys[j] := List.getElem?_eq_getElem (by omega)
  obtain ⟨v1, e1, p1⟩ := r1.get ex
  obtain ⟨v2, e2, p2⟩ := r2.get ey
  obtain ⟨u1, f1, q1⟩ := rv.get e1
  obtain ⟨u2, f2, q2⟩ := rv2.get e2
  have g1 : us.toArray[j] = u1 := by
    have := List.getElem?_eq_getElem h1'
    rw [f1] at this
    simpa using this.symm
  have g2 : us2.toArray[j] = u2 := by
    have := List.getElem?_eq_getElem h2'
    rw [f2] at this
    simpa using this.symm
  rw [g1, g2]
  exact ih _ _ _ _ _ _ _ (he j _ _ ex ey) p1 p2 q1 q2
open SeqAt in
theorem weq_at {P : Program} {wo : World} : ∀ (n : Nat) {A : Around} {s : Shared} {T : Tie} {H : Hp} {w1 w2 : W} {b : Bool} {v1 v2 : V} {u1 u2 : Value}, HOk P wo H s.heap -> A.units + n < cLine -> weq n w1 w2 = some b -> Rep G T H w1 v1 -> Rep G T H w2 v2 -> RelV v1 u1 -> RelV v2 u2 -> RcAt A s u1 u2 b /\ RcNeAt A s u1 u2 (!b) /\ EqAt A s u1 u2 b
  | 0, _, _, _, _, _, _, _, _, _, _, _, _, _, h, _, _, _, _ => by cases h
  | n + 1, A, s, T, H, w1, w2, b, v1, v2, u1, u2, ok, hu, h, r1, r2, ru1, ru2 => by
    have un : ∀ (_ : unlike w1 w2 = some b) (_ : kindW w1 ≠ kindW w2) (_ : ¬ (kindW w1 = 1 /\ kindW w2 = 2)) (_ : ¬ (kindW w1 = 2 /\ kindW w2 = 1)), RcAt A s u1 u2 b /\ RcNeAt A s u1 u2 (!b) /\ EqAt A s u1 u2 b := fun e n1 n2 n3 => by
      obtain ⟨rfl, k1, k2⟩ := unlike_kd e
      exact cross (by omega) (kd_of ok r1 ru1 k1) (kd_of ok r2 ru2 k2) n1 n2 n3
    have sm := fun (e : v1 = v2) => weq_same ok (n + 1) w1 w2 b v1 ⟨u1, ru1⟩ h r1 (by rw [e]; exact r2)
    have hu1 : A.units < cLine := by omega
    have hu2 : A.in1.units + n < cLine := by show A.units + 1 + n < cLine; omega
    unfold weq at h
    cases w1 with
    | int i =>
      cases w2 with
      | int j =>
        unfold Rep at r1 r2; subst r1; subst r2; obtain ⟨t, rfl⟩ := ru1; obtain ⟨t2, rfl⟩ := ru2; cases h
        rw [<- Bool.beq_eq_decide_eq]
        exact ⟨RcAt.int_int _ _ _ _, RcNeAt.int_int _ _ _ _, EqAt.int_int _ _ _ _⟩
      | bl j =>
        unfold Rep at r1 r2; subst r1; subst r2; obtain ⟨t, rfl⟩ := ru1; cases ru2; cases h
        rw [<- Bool.beq_eq_decide_eq]
        exact ⟨RcAt.int_bool _ _ _, RcNeAt.int_bool _ _ _, EqAt.int_bool _ _ _⟩
      | _ => exact un h (by unfold kindW; simp) (by unfold kindW; simp) (by unfold kindW; simp)
    | bl i =>
      cases w2 with
      | int j =>
        unfold Rep at r1 r2; subst r1; subst r2; obtain ⟨t, rfl⟩ := ru2; cases ru1; cases h
        rw [<- Bool.beq_eq_decide_eq]
        exact ⟨RcAt.bool_int _ _ _, RcNeAt.bool_int _ _ _, EqAt.bool_int _ _ _⟩
      | bl j =>
        unfold Rep at r1 r2; subst r1; subst r2; cases ru1; cases ru2; cases h
        exact ⟨RcAt.bool_bool _ _, RcNeAt.bool_bool _ _, EqAt.bool_bool _ _⟩
      | _ => exact un h (by unfold kindW; simp) (by unfold kindW; simp) (by unfold kindW; simp)
    | non =>
      cases w2 with
      | non =>
        unfold Rep at r1 r2; subst r1; subst r2; cases ru1; cases ru2; cases h
        exact ⟨RcAt.none_none, RcNeAt.none_none, EqAt.same _⟩
      | _ => exact un h (by unfold kindW; simp) (by unfold kindW; simp) (by unfold kindW; simp)
    | str i =>
      cases w2 with
      | str j =>
        unfold Rep at r1 r2; subst r1; subst r2; obtain ⟨t, rfl⟩ := ru1; obtain ⟨t2, rfl⟩ := ru2; cases h
        rw [strEq_eq, <- Bool.beq_eq_decide_eq]
        exact ⟨RcAt.str_str _ _ _ _, RcNeAt.str_str _ _ _ _, EqAt.str_str _ _ _ _⟩
      | _ => exact un h (by unfold kindW; simp) (by unfold kindW; simp) (by unfold kindW; simp)
    | tup xs =>
      cases w2 with
      | tup ys =>
        unfold Rep at r1 r2
        obtain ⟨a, vs, rfl, _, q, p1⟩ := r1
        obtain ⟨a2, vs2, rfl, _, q2, p2⟩ := r2
        obtain rfl : u1 = .ref a := ru1
        obtain rfl : u2 = .ref a2 := ru2
        obtain ⟨_, its, rv, t1⟩ := ok _ _ q
        obtain ⟨_, its2, rv2, t2⟩ := ok _ _ q2
        obtain ⟨e, he, eb⟩ := weqL_at h
        have rc := RcAt.tuples (A := A) (s := s) (e := e) (show s.heap.IsTuple a its.toArray from t1) (show s.heap.IsTuple a2 its2.toArray from t2) hu1
          (weqL_items (fun w1 w2 b v1 v2 u1 u2 h r1 r2 q1 q2 => (weq_at n ok hu2 h r1 r2 q1 q2).2.2) rv rv2 p1 p2 he)
        have rn := RcNeAt.tuples (A := A) (s := s) (e := e) (show s.heap.IsTuple a its.toArray from t1) (show s.heap.IsTuple a2 its2.toArray from t2) hu1
          (weqL_items (fun w1 w2 b v1 v2 u1 u2 h r1 r2 q1 q2 => (weq_at n ok hu2 h r1 r2 q1 q2).2.2) rv rv2 p1 p2 he)
        have eb' : ((List.range (min its.toArray.size its2.toArray.size)).all e && its.toArray.size == its2.toArray.size) = b := by
          rw [List.size_toArray, List.size_toArray, <- rv.length, <- rv2.length, <- p1.length, <- p2.length]
          exact eb
        rw [eb'] at rc rn
        refine ⟨rc, rn, ?_⟩
        by_cases z : a = a2
        · subst z
          rw [sm rfl]
          exact EqAt.same _
        · exact EqAt.of_refs z rc
      | _ => exact un h (by unfold kindW; simp) (by unfold kindW; simp) (by unfold kindW; simp)
    | lst xs =>
      cases w2 with
      | lst ys =>
        unfold Rep at r1 r2
        obtain ⟨a, vs, rfl, _, q, p1⟩ := r1
        obtain ⟨a2, vs2, rfl, _, q2, p2⟩ := r2
        obtain rfl : u1 = .ref a := ru1
        obtain rfl : u2 = .ref a2 := ru2
        obtain ⟨_, its, _, rv, t1⟩ := ok _ _ q
        obtain ⟨_, its2, _, rv2, t2⟩ := ok _ _ q2
        obtain ⟨e, he, eb⟩ := weqL_at h
        have i1 : s.heap.IsList a its.toArray := ⟨_, t1, rfl, _, rfl⟩
        have i2 : s.heap.IsList a2 its2.toArray := ⟨_, t2, rfl, _, rfl⟩
        have l1 := p1.length.trans rv.length
        have l2 := p2.length.trans rv2.length
        have rcn : RcAt A s (.ref a) (.ref a2) b /\ RcNeAt A s (.ref a) (.ref a2) (!b) := by
          by_cases z : its.length = its2.length
          · have rc := RcAt.lists (A := A) (s := s) (e := e) i1 i2 (by simpa using z) hu1
              (weqL_items (fun w1 w2 b v1 v2 u1 u2 h r1 r2 q1 q2 => (weq_at n ok hu2 h r1 r2 q1 q2).2.2) rv rv2 p1 p2 he)
            have rn := RcNeAt.lists (A := A) (s := s) (e := e) i1 i2 (by simpa using z) hu1
              (weqL_items (fun w1 w2 b v1 v2 u1 u2 h r1 r2 q1 q2 => (weq_at n ok hu2 h r1 r2 q1 q2).2.2) rv rv2 p1 p2 he)
            have eb' : (List.range its.toArray.size).all e = b := by
              rw [List.size_toArray]
              have e1 : min xs.length ys.length = its.length := by omega
              have e2 : (xs.length == ys.length) = true := by simp; omega
              rw [e1, e2, Bool.and_true] at eb
              exact eb
            rw [eb'] at rc rn
            exact ⟨rc, rn⟩
          · have rc := RcAt.lists_lengths (A := A) (s := s) i1 i2 (by simpa using z) hu1
            have rn := RcNeAt.lists_lengths (A := A) (s := s) i1 i2 (by simpa using z) hu1
            have e2 : (xs.length == ys.length) = false := by simp; omega
            rw [e2, Bool.and_false] at eb
            rw [<- eb]
            exact ⟨rc, rn⟩
        obtain ⟨rc, rn⟩ := rcn
        refine ⟨rc, rn, ?_⟩
        by_cases z : a = a2
        · subst z
          rw [sm rfl]
          exact EqAt.same _
        · exact EqAt.of_refs z rc
      | _ => exact un h (by unfold kindW; simp) (by unfold kindW; simp) (by unfold kindW; simp)
    | _ => exact absurd (unlike_kd h).2.1 (by simp [kindW])
end Mi
end
section
namespace Mi
open PySem PySem.Spec PyProof.Rows L2
variable {G : Kt} {X : Cx} {adr : Ad} {Y : WX}
theorem weqL_det {f : W -> W -> Option Bool} {T : Tie} {H : Hp} (ih : ∀ w1 w2 x b c v, (∃ u, RelV v u) -> f w1 x = some b -> f w2 x = some c -> Rep G T H w1 v -> Rep G T H w2 v -> b = c) : ∀ {xs ys zs : List W} {vs : List V} {us : List Value} {b c : Bool}, Vals vs us -> weqL f xs zs = some b -> weqL f ys zs = some c -> Reps G T H xs vs -> Reps G T H ys vs -> b = c
  | [], [], zs, vs, us, b, c, _, h, k, _, _ => by rw [h] at k; cases k; rfl
  | [], y :: ys, zs, vs, us, b, c, _, h, k, r1, r2 => by have := r1.length.trans r2.length.symm; simp at this
  | x :: xs, [], zs, vs, us, b, c, _, h, k, r1, r2 => by have := r1.length.trans r2.length.symm; simp at this
  | x :: xs, y :: ys, [], vs, us, b, c, rv, h, k, r1, r2 => by cases h; cases k; rfl
  | x :: xs, y :: ys, z :: zs, vs, us, b, c, rv, h, k, r1, r2 => by
    unfold Reps at r1 r2
    obtain ⟨v, s, rfl, p1, q1⟩ := r1
    obtain ⟨v2, s2, e, p2, q2⟩ := r2
    cases e
    cases rv with
    | cons rv rvs =>
    simp only [weqL] at h k
    cases e1 : f x z with
    | none => rw [e1] at h; cases h
    | some a1 =>
    cases e2 : f y z with
    | none => rw [e2] at k; cases k
    | some a2 =>
    rw [e1] at h
    rw [e2] at k
    cases e3 : weqL f xs zs with
    | none => rw [e3] at h; cases h
    | some a3 =>
    cases e4 : weqL f ys zs with
    | none => rw [e4] at k; cases k
    | some a4 =>
    rw [e3] at h
    rw [e4] at k
    cases h
    cases k
    rw [ih _ _ _ _ _ _ ⟨_, rv⟩ e1 e2 p1 p2, weqL_det ih rvs e3 e4 q1 q2]
theorem unlike_f {a b : W} {k : Bool} (h : unlike a b = some k) : k = false := (unlike_kd h).1
theorem weq_kind : ∀ {n : Nat} {w x : W} {b : Bool}, weq n w x = some b -> Nat.ble (kindW w) 5 = true
  | 0, _, _, _, h => by cases h
  | n + 1, w, x, b, h => by
    unfold weq at h
    cases w with
    | non => rfl
    | bl _ => rfl
    | int _ => rfl
    | str _ => rfl
    | tup _ => rfl
    | lst _ => rfl
    | _ => exact (unlike_kd h).2.1
theorem weq_det {P : Program} {w : World} {H : Hp} {h : Heap} (ok : HOk P w H h) : ∀ (n : Nat) {T : Tie} (w1 w2 x : W) (b c : Bool) (v : V), (∃ u, RelV v u) -> weq n w1 x = some b -> weq n w2 x = some c -> Rep G T H w1 v -> Rep G T H w2 v -> b = c
  | 0, _, _, _, _, _, _, _, _, h, _, _, _ => by cases h
  | n + 1, T, w1, w2, x, b, c, v, ⟨u, ru⟩, h, k, r1, r2 => by
    have ke := kind_same ok ru r1 r2 (weq_kind h) (weq_kind k)
    unfold weq at h k
    cases w1 with
    | int i =>
      cases w2 with
      | int j => unfold Rep at r1 r2; subst r1; cases r2; rw [h] at k; cases k; rfl
      | _ => exact absurd ke (by unfold kindW; simp)
    | bl i =>
      cases w2 with
      | bl j => unfold Rep at r1 r2; subst r1; cases r2; rw [h] at k; cases k; rfl
      | _ => exact absurd ke (by unfold kindW; simp)
    | non =>
      cases w2 with
      | non => rw [h] at k; cases k; rfl
      | _ => exact absurd ke (by unfold kindW; simp)
    | str i =>
      cases w2 with
      | str j => unfold Rep at r1 r2; subst r1; cases r2; rw [h] at k; cases k; rfl
      | _ => exact absurd ke (by unfold kindW; simp)
    | tup xs =>
      cases w2 with
      | tup ys =>
        unfold Rep at r1 r2
        obtain ⟨a, vs, rfl, _, q, p1⟩ := r1
        obtain ⟨a2, vs2, e2, _, q2, p2⟩ := r2
        cases e2
        rw [q] at q2
        cases q2
        obtain ⟨_, its, rv, _⟩ := ok _ _ q
        cases x with
        | tup zs => exact weqL_det (fun w1 w2 x b c v => weq_det ok n w1 w2 x b c v) rv h k p1 p2
        | _ => rw [unlike_f h, unlike_f k]
      | _ => exact absurd ke (by unfold kindW; simp)
    | lst xs =>
      cases w2 with
      | lst ys =>
        unfold Rep at r1 r2
        obtain ⟨a, vs, rfl, _, q, p1⟩ := r1
        obtain ⟨a2, vs2, e2, _, q2, p2⟩ := r2
        cases e2
        rw [q] at q2
        cases q2
        obtain ⟨_, its, _, rv, _⟩ := ok _ _ q
        cases x with
        | lst zs => exact weqL_det (fun w1 w2 x b c v => weq_det ok n w1 w2 x b c v) rv h k p1 p2
        | _ => rw [unlike_f h, unlike_f k]
      | _ => exact absurd ke (by unfold kindW; simp)
    | _ => exact absurd (unlike_kd h).2.1 (by simp [kindW])
def winL (f : W -> W -> Option Bool) (x : W) : List W -> Option Bool
  | [] => some false
  | y :: r => match f y x with
    | some a => match winL f x r with
      | some b => some (a || b)
      | none => none
    | none => none
open SeqAt in
theorem in_items {P : Program} {wo : World} {n : Nat} {A : Around} {s : Shared} {T : Tie} {H : Hp} {x : W} {vx : V} {ux : Value} (ok : HOk P wo H s.heap) (hu : A.units + n < cLine) (rx : Rep G T H x vx) (ru : RelV vx ux) :
    ∀ {ws : List W} {vs : List V} {us : List Value} {b : Bool}, Vals vs us -> Reps G T H ws vs -> winL (weq n) x ws = some b ->
      ∀ e : Value -> Bool, (∀ w v u k, Rep G T H w v -> RelV v u -> weq n w x = some k -> e u = k) -> (∀ u ∈ us, EqAt A s u ux (e u)) /\ us.any e = b
  | [], vs, us, b, rv, rs, h, e, he => by
    unfold Reps at rs
    subst rs
    cases rv
    cases h
    exact ⟨fun u hu => (nomatch hu), rfl⟩
  | w :: ws, vs, us, b, rv, rs, h, e, he => by
    unfold Reps at rs
    obtain ⟨v, s, rfl, p1, q1⟩ := rs
    cases rv with
    | cons r1 rr =>
    simp only [winL] at h
    cases e1 : weq n w x with
    | none => rw [e1] at h; cases h
    | some a =>
    rw [e1] at h
    cases e2 : winL (weq n) x ws with
    | none => rw [e2] at h; cases h
    | some c =>
    rw [e2] at h
    cases h
    obtain ⟨i1, i2⟩ := in_items ok hu rx ru rr q1 e2 e he
    have ea := he _ _ _ _ p1 r1 e1
    refine ⟨fun u hm => ?_, ?_⟩
    · rcases List.mem_cons.mp hm with z | z
      · subst z
        rw [ea]
        exact (weq_at n ok hu e1 p1 rx r1 ru).2.2
      · exact i1 u z
    · rw [List.any_cons, ea, i2]
open Classical in
noncomputable def ansW (G : Kt) (T : Tie) (H : Hp) (n : Nat) (x : W) (u : Value) : Bool := if h : ∃ k w v, Rep G T H w v /\ RelV v u /\ weq n w x = some k then h.choose else false
theorem ansW_is {P : Program} {wo : World} {T : Tie} {H : Hp} {h : Heap} (ok : HOk P wo H h) {n : Nat} {x : W} : ∀ w v u k, Rep G T H w v -> RelV v u -> weq n w x = some k -> ansW G T H n x u = k := fun w v u k r ru e => by
  have ex : ∃ k w v, Rep G T H w v /\ RelV v u /\ weq n w x = some k := ⟨k, w, v, r, ru, e⟩
  unfold ansW
  rw [dif_pos ex]
  obtain ⟨w2, v2, r2, ru2, e2⟩ := ex.choose_spec
  obtain rfl := ru.inj ru2
  exact weq_det ok n _ _ _ _ _ v ⟨u, ru⟩ e2 e r2 r
end Mi
end
section
namespace Mi
open PySem PySem.Spec PyProof.Rows L2
variable {G : Kt} {X : Cx} {adr : Ad} {Y : WX}
def rW (G : Kt) (F : F2) : R2 := fun v1 v2 H Q => ∃ T h w1 w2 w, Hrel G T h H /\ Rep G T H w1 v1 /\ Rep G T H w2 v2 /\ F w1 w2 h = some w /\ ∀ T' H' v, Hrel G T' h H' -> Ex T T' H H' -> Rep G T' H' w v -> Q v H'
theorem op2_rW {F : F2} : Op2 G (rW G F) F := fun T h H w1 w2 v1 v2 hr r1 r2 w e Q q => ⟨T, h, w1, w2, w, hr, r1, r2, e, q⟩
def MO (X : Cx) (adr : Ad) (f : Value -> Value -> Sem Value) (F : F2) : Prop := OpR X f (rW (kt X adr) F)
abbrev Hands (G : Kt) (T : Tie) (h : MH) (H : Hp) (w : W) (Q : VK) : Prop := ∀ T' H' v, Hrel G T' h H' -> Ex T T' H H' -> Rep G T' H' w v -> Q v H'
theorem MO.mk {f : Value -> Value -> Sem Value} {F : F2} (k : ∀ w1 w2 h w, F w1 w2 h = some w -> ∃ r, OpR X f r /\ ∀ T H v1 v2 Q, Hrel (kt X adr) T h H -> Rep (kt X adr) T H w1 v1 -> Rep (kt X adr) T H w2 v2 -> Hands (kt X adr) T h H w Q -> r v1 v2 H Q) : MO X adr f F := by
  intro pins s σ H x y v u Q I rx ry ⟨T, h, w1, w2, w, hr, r1, r2, e, q⟩
  obtain ⟨r, ho, k⟩ := k w1 w2 h w e
  exact ho pins s σ H x y v u Q I rx ry (k T H x y Q hr r1 r2 q)
section
variable {a b : Expr} {ma mb : EM} {pos : Pos} {F : F2}
theorem me_binW {op : Operator} (ho : MO X adr (binaryOp op) F) (ha : ME X adr Y a ma) (hb : ME X adr Y b mb) : ME X adr Y (.BinOp a op b pos) (mBin F ma mb) := me_bin ho op2_rW ha hb
theorem me_cmpW {op : CmpOp} (ho : MO X adr (compareOp op) F) (ha : ME X adr Y a ma) (hb : ME X adr Y b mb) (hm : behindInMarks op b = false) : ME X adr Y (.Compare a [op] [b] pos) (mBin F ma mb) := me_cmp ho op2_rW ha hb hm
theorem mt_cmpW {op : CmpOp} (ho : MO X adr (compareOp op) F) (ha : ME X adr Y a ma) (hb : ME X adr Y b mb) (hm : behindInMarks op b = false) : MT X adr Y (.Compare a [op] [b] pos) (mBin F ma mb) := mt_cmp ho op2_rW ha hb hm
end
theorem rep_int {T : Tie} {H : Hp} {i : Int} {v : V} (r : Rep G T H (.int i) v) : v = .int i := by unfold Rep at r; exact r
theorem rep_str {T : Tie} {H : Hp} {i : Str} {v : V} (r : Rep G T H (.str i) v) : v = .str i := by unfold Rep at r; exact r
theorem rep_bl {T : Tie} {H : Hp} {i : Bool} {v : V} (r : Rep G T H (.bl i) v) : v = .bl i := by unfold Rep at r; exact r
theorem rep_non {T : Tie} {H : Hp} {v : V} (r : Rep G T H .non v) : v = .non := by unfold Rep at r; exact r
theorem Hands.int {T : Tie} {h : MH} {H : Hp} {i : Int} {Q : VK} (hr : Hrel G T h H) (q : Hands G T h H (.int i) Q) : Q (.int i) H := q T H _ hr (Ex.rfl' hr.ok) (by unfold Rep; rfl)
theorem Hands.str {T : Tie} {h : MH} {H : Hp} {i : Str} {Q : VK} (hr : Hrel G T h H) (q : Hands G T h H (.str i) Q) : Q (.str i) H := q T H _ hr (Ex.rfl' hr.ok) (by unfold Rep; rfl)
theorem Hands.bl {T : Tie} {h : MH} {H : Hp} {i : Bool} {Q : VK} (hr : Hrel G T h H) (q : Hands G T h H (.bl i) Q) : Q (.bl i) H := q T H _ hr (Ex.rfl' hr.ok) (by unfold Rep; rfl)
theorem Hands.same {T : Tie} {h : MH} {H : Hp} {w : W} {v : V} {Q : VK} (hr : Hrel G T h H) (r : Rep G T H w v) (q : Hands G T h H w Q) : Q v H := q T H _ hr (Ex.rfl' hr.ok) r
theorem Hands.tup {T : Tie} {h : MH} {H : Hp} {ws : List W} {vs : List V} {Q : VK} (hr : Hrel G T h H) (r : Reps G T H ws vs) (q : Hands G T h H (.tup ws) Q) : ∀ p, H p = none -> Q (.ref p) (upd H p (.tup vs)) := fun p hp =>
  let ⟨a, b, c⟩ := pair_laid hr hp r
  q T _ _ a b c
theorem Hands.lst {T : Tie} {h : MH} {H : Hp} {ws : List W} {vs : List V} {Q : VK} (hr : Hrel G T h H) (r : Reps G T H ws vs) (q : Hands G T h H (.lst ws) Q) : ∀ p, H p = none -> Q (.ref p) (upd H p (.lst vs)) := fun p hp =>
  let ⟨a, b, c⟩ := list_laid hr hp r
  q T _ _ a b c
def ble (a b : Nat) : Bool := Nat.ble a b
def lenLe (n : Nat) : Bool := Nat.ble n 16777216
theorem lenLe_iff {n : Nat} (h : lenLe n = true) : n <= sizeLine := by rw [sizeLine_eq]; exact Nat.le_of_ble_eq_true h
def wIf (b : Bool) (w : W) : Option W := match b with
  | true => some w
  | false => none
theorem wIf_is {b : Bool} {w u : W} (h : wIf b w = some u) : b = true /\ w = u := by
  cases b with
  | true => cases h; exact ⟨rfl, rfl⟩
  | false => cases h
def wAdd : F2 := fun a b _ => match a, b with
  | .int i, .int j => some (.int (i + j))
  | .str x, .str y => wIf (lenLe (x.length + y.length)) (.str (x ++ y))
  | .tup x, .tup y => wIf (lenLe (x.length + y.length)) (.tup (x ++ y))
  | .lst x, .lst y => wIf (lenLe (x.length + y.length)) (.lst (x ++ y))
  | _, _ => none
theorem mo_add : MO X adr (binaryOp .Add) wAdd := MO.mk fun w1 w2 h w e => by
  unfold wAdd at e
  split at e
  · cases e
    exact ⟨_, op_add, fun T H v1 v2 Q hr r1 r2 q => ⟨_, _, rep_int r1, rep_int r2, q.int hr⟩⟩
  · obtain ⟨l, rfl⟩ := wIf_is e
    exact ⟨_, op_add_str, fun T H v1 v2 Q hr r1 r2 q => ⟨_, _, rep_str r1, rep_str r2, lenLe_iff l, q.str hr⟩⟩
  · obtain ⟨l, rfl⟩ := wIf_is e
    refine ⟨_, op_catA, fun T H v1 v2 Q hr r1 r2 q => ?_⟩
    have s1 := r1
    have s2 := r2
    unfold Rep at r1 r2
    obtain ⟨a, vs, rfl, f, qa, p1⟩ := r1
    obtain ⟨a2, vs2, rfl, f2, qa2, p2⟩ := r2
    refine ⟨a, a2, vs, vs2, rfl, rfl, .inl (.inl qa), .inl (.inl qa2), by rw [<- p1.length, <- p2.length]; exact lenLe_iff l, fun z => ?_, fun z z2 => ?_, fun _ _ => q.tup hr (p1.append p2)⟩
    · subst z
      have := p1.length
      simp at this
      subst this
      exact q.same hr s2
    · subst z2
      have := p2.length
      simp at this
      subst this
      rw [List.append_nil] at q
      exact q.same hr s1
  · obtain ⟨l, rfl⟩ := wIf_is e
    refine ⟨_, op_cat, fun T H v1 v2 Q hr r1 r2 q => ?_⟩
    unfold Rep at r1 r2
    obtain ⟨a, vs, rfl, f, qa, p1⟩ := r1
    obtain ⟨a2, vs2, rfl, f2, qa2, p2⟩ := r2
    exact ⟨a, a2, vs, vs2, rfl, rfl, qa, qa2, by rw [<- p1.length, <- p2.length]; exact lenLe_iff l, q.lst hr (p1.append p2)⟩
  · cases e
def wSub : F2 := fun a b _ => match a, b with
  | .int i, .int j => some (.int (i - j))
  | _, _ => none
theorem mo_sub : MO X adr (binaryOp .Sub) wSub := MO.mk fun w1 w2 h w e => by
  unfold wSub at e
  split at e
  · cases e
    exact ⟨_, op_sub, fun T H v1 v2 Q hr r1 r2 q => ⟨_, _, rep_int r1, rep_int r2, q.int hr⟩⟩
  · cases e
def fit64 (i : Int) : Bool := decide (-(2 ^ 64) < i) && decide (i < 2 ^ 64)
theorem fit64_iff {i : Int} (h : fit64 i = true) : -(2 ^ 64) < i /\ i < 2 ^ 64 := by
  unfold fit64 at h
  rw [Bool.and_eq_true] at h
  exact ⟨of_decide_eq_true h.1, of_decide_eq_true h.2⟩
def repW (ws : List W) : Nat -> List W
  | 0 => []
  | n + 1 => ws ++ repW ws n
theorem reps_rep {T : Tie} {H : Hp} {ws : List W} {vs : List V} (r : Reps G T H ws vs) : ∀ n, Reps G T H (repW ws n) (List.replicate n vs).flatten
  | 0 => by simpa [repW] using Reps.nil
  | n + 1 => by
    rw [List.replicate_succ, List.flatten_cons]
    exact r.append (reps_rep r n)
def wMul : F2 := fun a b _ => match a, b with
  | .int i, .int j => wIf (fit64 i || fit64 j) (.int (i * j))
  | .tup (x :: r), .int k => wIf (Nat.ble 2 k.toNat && (Nat.ble k.toNat 1000 && Nat.ble (x :: r).length 1000)) (.tup (repW (x :: r) k.toNat))
  | _, _ => none
theorem mo_mul : MO X adr (binaryOp .Mult) wMul := MO.mk fun w1 w2 h w e => by
  unfold wMul at e
  split at e
  · obtain ⟨l, rfl⟩ := wIf_is e
    refine ⟨_, op_mul, fun T H v1 v2 Q hr r1 r2 q => ⟨_, _, rep_int r1, rep_int r2, ?_, q.int hr⟩⟩
    rcases (Bool.or_eq_true _ _).mp l with z | z
    · exact .inl (fit64_iff z)
    · exact .inr (fit64_iff z)
  · rename_i x r k
    obtain ⟨l, rfl⟩ := wIf_is e
    rw [Bool.and_eq_true, Bool.and_eq_true] at l
    have l1 := Nat.le_of_ble_eq_true l.1
    have l2 := Nat.le_of_ble_eq_true l.2.1
    have l3 := Nat.le_of_ble_eq_true l.2.2
    refine ⟨_, op_repT, fun T H v1 v2 Q hr r1 r2 q => ?_⟩
    unfold Rep at r1
    obtain ⟨a, vs, rfl, f, qa, p1⟩ := r1
    refine ⟨a, k, vs, rfl, rep_int r2, .inl (.inl qa), fun z => ?_, by omega, by omega, by rw [<- p1.length]; exact l3, q.tup hr (reps_rep p1 _)⟩
    subst z
    have := p1.length
    simp at this
  · cases e
def wMod : F2 := fun a b _ => match a, b with
  | .int i, .int j => wIf (decide (0 < j)) (.int (i % j))
  | _, _ => none
theorem mo_mod : MO X adr (binaryOp .Mod) wMod := MO.mk fun w1 w2 h w e => by
  unfold wMod at e
  split at e
  · obtain ⟨l, rfl⟩ := wIf_is e
    exact ⟨_, op_mod, fun T H v1 v2 Q hr r1 r2 q => ⟨_, _, rep_int r1, rep_int r2, of_decide_eq_true l, q.int hr⟩⟩
  · cases e
def wPow : F2 := fun a b _ => match a, b with
  | .int i, .int j => wIf (decide (0 <= j) && (decide (j <= 1000000) && Nat.blt i.natAbs 18446744073709551616)) (.int (i ^ j.toNat))
  | _, _ => none
theorem mo_pow : MO X adr (binaryOp .Pow) wPow := MO.mk fun w1 w2 h w e => by
  unfold wPow at e
  split at e
  · obtain ⟨l, rfl⟩ := wIf_is e
    rw [Bool.and_eq_true, Bool.and_eq_true] at l
    exact ⟨_, op_pow, fun T H v1 v2 Q hr r1 r2 q => ⟨_, _, rep_int r1, rep_int r2, ⟨of_decide_eq_true l.1, of_decide_eq_true l.2.1, Nat.le_of_ble_eq_true l.2.2⟩, q.int hr⟩⟩
  · cases e
def wCmp (f : Int -> Int -> Bool) : F2 := fun a b _ => match a, b with
  | .int i, .int j => some (.bl (f i j))
  | _, _ => none
theorem mo_cmpI {op : CmpOp} {f : Int -> Int -> Bool} (ho : OpR X (compareOp op) (rI0 fun i j => .bl (f i j))) : MO X adr (compareOp op) (wCmp f) := MO.mk fun w1 w2 h w e => by
  unfold wCmp at e
  split at e
  · cases e
    exact ⟨_, ho, fun T H v1 v2 Q hr r1 r2 q => ⟨_, _, rep_int r1, rep_int r2, q.bl hr⟩⟩
  · cases e
def wLt : F2 := wCmp fun i j => decide (i < j)
def wLe : F2 := wCmp fun i j => decide (i <= j)
def wGt : F2 := wCmp fun i j => decide (j < i)
theorem mo_lt : MO X adr (compareOp .Lt) wLt := mo_cmpI op_lt
theorem mo_le : MO X adr (compareOp .LtE) wLe := mo_cmpI op_le
theorem mo_gt : MO X adr (compareOp .Gt) wGt := mo_cmpI op_gt
def optBl : Option Bool -> Option W
  | some b => some (.bl b)
  | none => none
theorem optBl_is {o : Option Bool} {w : W} (h : optBl o = some w) : ∃ b, o = some b /\ w = .bl b := by
  cases o with
  | some b => cases h; exact ⟨b, rfl, rfl⟩
  | none => cases h
def wInS (neg : Bool) : F2 := fun a b _ => match b with
  | .str y => match a with
    | .str x => some (.bl (xor neg (!(Builtin.Str.occurrences y x 0 y.length 1).isEmpty)))
    | _ => none
  | .tup ys => match winL (weq 30) a ys with
    | some k => some (.bl (xor neg k))
    | none => none
  | .lst ys => match winL (weq 30) a ys with
    | some k => some (.bl (xor neg k))
    | none => none
  | .kt0 => some (.bl neg)
  | _ => none
theorem mo_inS (hu : X.A.units + 64 < cLine) : MO X adr (compareOp .In) (wInS false) := by
  intro pins s σ H x y v u Q I rx ry ⟨T, h, w1, w2, w, hr, r1, r2, e, q⟩
  have hu2 : X.A.in1.units + 30 < cLine := by show X.A.units + 1 + 30 < cLine; omega
  unfold wInS at e
  split at e
  · split at e
    · cases e
      refine op_in_str pins s σ H x y v u Q I rx ry ⟨_, _, rep_str r1, rep_str r2, ?_⟩
      simpa using Hands.bl hr q
    · cases e
  · split at e
    · rename_i k ek
      cases e
      unfold Rep at r2
      obtain ⟨a, vs, rfl, f, qa, p1⟩ := r2
      obtain rfl : u = .ref a := ry
      obtain ⟨_, its, rv, p⟩ := I.hok _ _ qa
      obtain ⟨i1, i2⟩ := in_items (G := kt X adr) I.hok hu2 r1 rx rv p1 ek (ansW (kt X adr) T H 30 w1) (ansW_is I.hok)
      refine SeqAt.in_tupleAt (ansW (kt X adr) T H 30 w1) (show s.heap.IsTuple a its.toArray from p) (fun y hy => i1 y (by simpa using hy)) ⟨.bl _, H, I, rfl, ?_⟩
      rw [show its.toArray.any (ansW (kt X adr) T H 30 w1) = its.any (ansW (kt X adr) T H 30 w1) by simp, i2]
      simpa using Hands.bl hr q
    · cases e
  · split at e
    · rename_i k ek
      cases e
      unfold Rep at r2
      obtain ⟨a, vs, rfl, f, qa, p1⟩ := r2
      obtain rfl : u = .ref a := ry
      obtain ⟨_, its, n, rv, p⟩ := I.hok _ _ qa
      obtain ⟨i1, i2⟩ := in_items (G := kt X adr) I.hok hu2 r1 rx rv p1 ek (ansW (kt X adr) T H 30 w1) (ansW_is I.hok)
      refine SeqAt.in_listAt (ansW (kt X adr) T H 30 w1) (show s.heap.IsList a its.toArray from ⟨_, p, rfl, _, rfl⟩) (fun y hy => i1 y (by simpa using hy)) ⟨.bl _, H, I, rfl, ?_⟩
      rw [show its.toArray.any (ansW (kt X adr) T H 30 w1) = its.any (ansW (kt X adr) T H 30 w1) by simp, i2]
      simpa using Hands.bl hr q
    · cases e
  · cases e
    unfold Rep at r2
    obtain ⟨a, rfl, o, n, k1, k2, k3⟩ := r2
    obtain rfl : u = .ref a := ry
    exact SeqAt.in_tupleAt (fun _ => false) (show s.heap.IsTuple a #[] from ⟨o, I.kIn _ _ k1, k2, n, k3⟩) (fun y hy => by simp at hy) ⟨.bl _, H, I, rfl, Hands.bl hr (by simpa using q)⟩
  · cases e
theorem mo_notInS (hu : X.A.units + 64 < cLine) : MO X adr (compareOp .NotIn) (wInS true) := by
  intro pins s σ H x y v u Q I rx ry ⟨T, h, w1, w2, w, hr, r1, r2, e, q⟩
  have hu2 : X.A.in1.units + 30 < cLine := by show X.A.units + 1 + 30 < cLine; omega
  unfold wInS at e
  split at e
  · split at e
    · cases e
      refine op_notin_str pins s σ H x y v u Q I rx ry ⟨_, _, rep_str r1, rep_str r2, ?_⟩
      simpa using Hands.bl hr q
    · cases e
  · split at e
    · rename_i k ek
      cases e
      unfold Rep at r2
      obtain ⟨a, vs, rfl, f, qa, p1⟩ := r2
      obtain rfl : u = .ref a := ry
      obtain ⟨_, its, rv, p⟩ := I.hok _ _ qa
      obtain ⟨i1, i2⟩ := in_items (G := kt X adr) I.hok hu2 r1 rx rv p1 ek (ansW (kt X adr) T H 30 w1) (ansW_is I.hok)
      refine SeqAt.notIn_tupleAt (ansW (kt X adr) T H 30 w1) (show s.heap.IsTuple a its.toArray from p) (fun y hy => i1 y (by simpa using hy)) ⟨.bl _, H, I, rfl, ?_⟩
      rw [show its.toArray.any (ansW (kt X adr) T H 30 w1) = its.any (ansW (kt X adr) T H 30 w1) by simp, i2]
      simpa using Hands.bl hr q
    · cases e
  · split at e
    · rename_i k ek
      cases e
      unfold Rep at r2
      obtain ⟨a, vs, rfl, f, qa, p1⟩ := r2
      obtain rfl : u = .ref a := ry
      obtain ⟨_, its, n, rv, p⟩ := I.hok _ _ qa
      obtain ⟨i1, i2⟩ := in_items (G := kt X adr) I.hok hu2 r1 rx rv p1 ek (ansW (kt X adr) T H 30 w1) (ansW_is I.hok)
      refine SeqAt.notIn_listAt (ansW (kt X adr) T H 30 w1) (show s.heap.IsList a its.toArray from ⟨_, p, rfl, _, rfl⟩) (fun y hy => i1 y (by simpa using hy)) ⟨.bl _, H, I, rfl, ?_⟩
      rw [show its.toArray.any (ansW (kt X adr) T H 30 w1) = its.any (ansW (kt X adr) T H 30 w1) by simp, i2]
      simpa using Hands.bl hr q
    · cases e
  · cases e
    unfold Rep at r2
    obtain ⟨a, rfl, o, n, k1, k2, k3⟩ := r2
    obtain rfl : u = .ref a := ry
    exact SeqAt.notIn_tupleAt (fun _ => false) (show s.heap.IsTuple a #[] from ⟨o, I.kIn _ _ k1, k2, n, k3⟩) (fun y hy => by simp at hy) ⟨.bl _, H, I, rfl, Hands.bl hr (by simpa using q)⟩
  · cases e
def isNone : W -> Option Bool
  | .non => some true
  | .ref _ => none
  | _ => some false
end Mi
end
section
namespace Mi
open PySem PySem.Spec PyProof.Rows L2
variable {G : Kt} {X : Cx} {adr : Ad} {Y : WX}
mutual
def kEq : W -> W -> Bool
  | .int i, b => match b with
    | .int j => decide (i = j)
    | .bl k => decide (i = if k then 1 else 0)
    | _ => false
  | .str x, b => match b with
    | .str y => strEq x y
    | _ => false
  | .tup xs, b => match b with
    | .tup ys => kEqs xs ys
    | _ => false
  | .bl k, b => match b with
    | .int j => decide ((if k then 1 else 0) = j)
    | .bl l => k == l
    | _ => false
  | .non, b => match b with
    | .non => true
    | _ => false
  | _, _ => false
def kEqs : List W -> List W -> Bool
  | [], ys => match ys with
    | [] => true
    | _ => false
  | x :: xs, ys => match ys with
    | y :: ys => match kEq x y with
      | true => kEqs xs ys
      | false => false
    | [] => false
end
theorem nkWs_cons {x : W} {xs : List W} {u : List NestedKey} (h : nkWs (x :: xs) = some u) : ∃ a r, nkW x = some a /\ nkWs xs = some r /\ u = a :: r := by
  unfold nkWs at h
  cases e1 : nkW x with
  | none => rw [e1] at h; cases h
  | some a =>
    cases e2 : nkWs xs with
    | none => rw [e1, e2] at h; cases h
    | some r => rw [e1, e2] at h; cases h; exact ⟨a, r, rfl, rfl, rfl⟩
theorem nkW_tup {xs : List W} {u : NestedKey} (h : nkW (.tup xs) = some u) : ∃ k, nkWs xs = some k /\ u = .tup k := by
  unfold nkW at h
  cases e : nkWs xs with
  | none => rw [e] at h; cases h
  | some k => rw [e] at h; cases h; exact ⟨k, rfl, rfl⟩
theorem beq_num (i j : Int) : NestedKey.beq (.num i) (.num j) = decide (i = j) := by
  rw [<- NestedKey.decide_eq]; simp
theorem beq_text (i j : Str) : NestedKey.beq (.text i) (.text j) = decide (i = j) := by
  rw [<- NestedKey.decide_eq]; simp
mutual
theorem kEq_is : ∀ (a b : W) (u v : NestedKey), nkW a = some u -> nkW b = some v -> kEq a b = NestedKey.beq u v
  | .int i, b, u, v, h, k => by
    cases h
    cases b with
    | int j => cases k; rw [beq_num]; rfl
    | bl l => cases k; rw [beq_num]; rfl
    | non => cases k; rfl
    | str y => cases k; rfl
    | tup ys => obtain ⟨l, _, rfl⟩ := nkW_tup k; rfl
    | _ => cases k
  | .bl i, b, u, v, h, k => by
    cases h
    cases b with
    | int j => cases k; rw [beq_num]; rfl
    | bl l => cases k; rw [beq_num]; cases i <;> cases l <;> rfl
    | non => cases k; rfl
    | str y => cases k; rfl
    | tup ys => obtain ⟨l, _, rfl⟩ := nkW_tup k; rfl
    | _ => cases k
  | .str i, b, u, v, h, k => by
    cases h
    cases b with
    | int j => cases k; rfl
    | bl l => cases k; rfl
    | non => cases k; rfl
    | str y => cases k; rw [beq_text, <- strEq_eq]; rfl
    | tup ys => obtain ⟨l, _, rfl⟩ := nkW_tup k; rfl
    | _ => cases k
  | .non, b, u, v, h, k => by
    cases h
    cases b with
    | int j => cases k; rfl
    | bl l => cases k; rfl
    | non => cases k; rfl
    | str y => cases k; rfl
    | tup ys => obtain ⟨l, _, rfl⟩ := nkW_tup k; rfl
    | _ => cases k
  | .tup xs, b, u, v, h, k => by
    obtain ⟨l, e, rfl⟩ := nkW_tup h
    cases b with
    | int j => cases k; rfl
    | bl l => cases k; rfl
    | non => cases k; rfl
    | str y => cases k; rfl
    | tup ys =>
      obtain ⟨l2, e2, rfl⟩ := nkW_tup k
      exact kEqs_is xs ys l l2 e e2
    | _ => cases k
  | .lst _, _, _, _, h, _ => by cases h
  | .dct _ _, _, _, _, h, _ => by cases h
  | .ins _ _ _, _, _, _, h, _ => by cases h
  | .ref _, _, _, _, h, _ => by cases h
  | .dvs _ _, _, _, _, h, _ => by cases h
  | .ty _, _, _, _, h, _ => by cases h
  | .cl _, _, _, _, h, _ => by cases h
theorem kEqs_is : ∀ (xs ys : List W) (u v : List NestedKey), nkWs xs = some u -> nkWs ys = some v -> kEqs xs ys = NestedKey.beqAll u v
  | [], ys, u, v, h, k => by
    cases h
    cases ys with
    | nil => cases k; rfl
    | cons y ys => obtain ⟨a, r, _, _, rfl⟩ := nkWs_cons k; rfl
  | x :: xs, ys, u, v, h, k => by
    obtain ⟨a, r, e1, e2, rfl⟩ := nkWs_cons h
    cases ys with
    | nil => cases k; rfl
    | cons y ys =>
      obtain ⟨a2, r2, f1, f2, rfl⟩ := nkWs_cons k
      show (match kEq x y with | true => kEqs xs ys | false => false) = (NestedKey.beq a a2 && NestedKey.beqAll r r2)
      rw [kEq_is x y a a2 e1 f1, kEqs_is xs ys r r2 e2 f2]
      cases NestedKey.beq a a2 <;> rfl
end
theorem kT_nk {k : W} {u : NestedKey} (h : kT k = some u) : nkW k = some u /\ u.depth <= 8 /\ ∃ ws, k = .tup ws := by
  unfold kT at h
  split at h
  · rename_i ws
    split at h
    · rename_i ks e
      split at h
      · rename_i e2
        cases h
        exact ⟨by unfold nkW; rw [e]; rfl, Nat.le_of_ble_eq_true e2, ws, rfl⟩
      · cases h
    · cases h
  · cases h
theorem kEq_T {a b : W} {u v : NestedKey} (h : kT a = some u) (k : kT b = some v) : kEq a b = decide (u = v) := by
  rw [kEq_is _ _ _ _ (kT_nk h).1 (kT_nk k).1, NestedKey.decide_eq]
theorem kEq_S {a b : W} {u v : Key} (h : kS a = some u) (k : kS b = some v) : kEq a b = decide (u = v) := by
  cases a with
  | int i =>
    cases h
    cases b with
    | int j => cases k; show decide (i = j) = _; simp
    | str j => cases k; show false = _; simp
    | _ => cases k
  | str i =>
    cases h
    cases b with
    | int j => cases k; show false = _; simp
    | str j => cases k; show strEq i j = _; rw [strEq_eq]; simp
    | _ => cases k
  | _ => cases h
def scal : W -> Bool
  | .int _ => true
  | .str _ => true
  | _ => false
theorem scal_kS {k : W} (h : scal k = true) : ∃ u, kS k = some u := by
  cases k with
  | int i => exact ⟨_, rfl⟩
  | str i => exact ⟨_, rfl⟩
  | _ => cases h
theorem kS_scal {k : W} {u : Key} (h : kS k = some u) : scal k = true := by
  cases k with
  | int i => rfl
  | str i => rfl
  | _ => cases h
theorem kT_scal {k : W} {u : NestedKey} (h : kT k = some u) : scal k = false := by
  obtain ⟨_, _, ws, rfl⟩ := kT_nk h
  rfl
def keyFit (k : W) (ks : List W) : Bool := match scal k with
  | true => match ks with
    | [] => true
    | x :: _ => scal x
  | false => match kT k with
    | some _ => match ks with
      | [] => true
      | x :: _ => !(scal x)
    | none => false
def dfind (k : W) : List W -> List W -> Option W
  | x :: ks, vs => match vs with
    | v :: vs => match kEq x k with
      | true => some v
      | false => dfind k ks vs
    | [] => none
  | [], _ => none
def dhas (k : W) : List W -> Bool
  | x :: ks => match kEq x k with
    | true => true
    | false => dhas k ks
  | [] => false
mutual
theorem nested_is {P : Program} {wo : World} {T : Tie} {H : Hp} {h : Heap} (ok : HOk P wo H h) : ∀ (w : W) (k : NestedKey) (v : V) (u : Value), nkW w = some k -> Rep G T H w v -> RelV v u -> NestedIs h k u
  | .non, k, v, u, e, r, ru => by cases e; rw [rep_non r] at ru; cases ru; exact .none
  | .bl b, k, v, u, e, r, ru => by cases e; rw [rep_bl r] at ru; cases ru; exact .bool rfl
  | .int i, k, v, u, e, r, ru => by cases e; rw [rep_int r] at ru; obtain ⟨t, rfl⟩ := ru; exact .int _ _
  | .str i, k, v, u, e, r, ru => by cases e; rw [rep_str r] at ru; obtain ⟨t, rfl⟩ := ru; exact .text _ _
  | .tup ws, k, v, u, e, r, ru => by
    obtain ⟨l, e2, rfl⟩ := nkW_tup e
    unfold Rep at r
    obtain ⟨a, vs, rfl, _, q, p1⟩ := r
    obtain rfl : u = .ref a := ru
    obtain ⟨_, its, rv, o, ho, hc, n, hd⟩ := ok _ _ q
    exact .tup ho hc hd (nested_all ok ws l vs its.toArray.toList e2 p1 (by simpa using rv))
  | .lst _, _, _, _, h, _, _ => by cases h
  | .dct _ _, _, _, _, h, _, _ => by cases h
  | .ins _ _ _, _, _, _, h, _, _ => by cases h
  | .ref _, _, _, _, h, _, _ => by cases h
  | .dvs _ _, _, _, _, h, _, _ => by cases h
  | .ty _, _, _, _, h, _, _ => by cases h
  | .cl _, _, _, _, h, _, _ => by cases h
theorem nested_all {P : Program} {wo : World} {T : Tie} {H : Hp} {h : Heap} (ok : HOk P wo H h) : ∀ (ws : List W) (k : List NestedKey) (vs : List V) (us : List Value), nkWs ws = some k -> Reps G T H ws vs -> Vals vs us -> NestedAll h k us
  | [], k, vs, us, e, r, ru => by
    cases e
    unfold Reps at r
    subst r
    cases ru
    exact .nil
  | w :: ws, k, vs, us, e, r, ru => by
    obtain ⟨a, q, e1, e2, rfl⟩ := nkWs_cons e
    unfold Reps at r
    obtain ⟨v, s, rfl, p1, p2⟩ := r
    cases ru with
    | cons r1 r2 => exact .cons (nested_is ok w a v _ e1 p1 r1) (nested_all ok ws q s _ e2 p2 r2)
end
theorem keyIs_rel {k : W} {u : Key} {v : V} {x : Value} {T : Tie} {H : Hp} (h : kS k = some u) (r : Rep G T H k v) (rx : RelV v x) : keyIs u x = true := by
  cases k with
  | int i => cases h; rw [rep_int r] at rx; obtain ⟨t, rfl⟩ := rx; exact keyIs_int i t
  | str i => cases h; rw [rep_str r] at rx; obtain ⟨t, rfl⟩ := rx; exact keyIs_str i t
  | _ => cases h
theorem hash_S {k : W} {u : Key} {wo : World} (h : kS k = some u) : hashW wo k = keyH wo u := by
  cases k with
  | int i => cases h; rfl
  | str i => cases h; rfl
  | _ => cases h
theorem hash_T {k : W} {u : NestedKey} {wo : World} (h : kT k = some u) : hashW wo k = u.hash wo := by
  obtain ⟨e, _, ws, rfl⟩ := kT_nk h
  show (match nkW (W.tup ws) with
    | some k => NestedKey.hash wo k
    | none => 0) = NestedKey.hash wo u
  rw [e]
theorem map_cons_some {α β : Type} {f : α -> Option β} {x : α} {xs : List α} {kl : List β} (h : (x :: xs).map f = kl.map some) : ∃ a r, kl = a :: r /\ f x = some a /\ xs.map f = r.map some := by
  cases kl with
  | nil => cases h
  | cons a r =>
    simp only [List.map_cons, List.cons.injEq] at h
    exact ⟨a, r, rfl, h.1, h.2⟩
theorem map_nil_some {α β : Type} {f : α -> Option β} {kl : List β} (h : ([] : List α).map f = kl.map some) : kl = [] := by
  cases kl with
  | nil => rfl
  | cons a r => cases h
theorem ents_S {P : Program} {wo : World} {T : Tie} {H : Hp} : ∀ {es : List DictEntry} {kv vv : List V} {ks : List W} {kl : List Key}, Ents es kv vv (ks.map (hashW wo)) -> Reps G T H ks kv -> ks.map kS = kl.map some ->
    ∃ us, Vals vv us /\ kl.length = us.length /\ (∀ e ∈ es, ∃ k, keyIs k e.key = true /\ e.hash = keyH wo k) /\ Pairs (mixKind P wo) es (kl.zip us)
  | es, kv, vv, [], kl, en, rs, hk => by
    obtain rfl := map_nil_some hk
    cases en
    exact ⟨[], .nil, rfl, fun e he => (nomatch he), .nil⟩
  | es, kv, vv, k :: ks, kl, en, rs, hk => by
    obtain ⟨a, r, rfl, e1, e2⟩ := map_cons_some hk
    unfold Reps at rs
    obtain ⟨v, s, rfl, p1, p2⟩ := rs
    cases en with
    | cons q1 q2 q3 q4 =>
      obtain ⟨us, rv, ln, f, pr⟩ := ents_S (P := P) q4 p2 e2
      have ki := keyIs_rel e1 p1 q1
      refine ⟨_ :: us, .cons q2 rv, by simp [ln], fun e he => ?_, .cons ki rfl pr⟩
      rcases List.mem_cons.mp he with z | z
      · subst z
        exact ⟨a, ki, by rw [q3, hash_S e1]⟩
      · exact f e z
theorem ents_T {P : Program} {wo : World} {T : Tie} {H : Hp} {h : Heap} (ok : HOk P wo H h) : ∀ {es : List DictEntry} {kv vv : List V} {ks : List W} {kl : List NestedKey}, Ents es kv vv (ks.map (hashW wo)) -> Reps G T H ks kv -> ks.map kT = kl.map some ->
    ∃ (us : List Value) (bs : List Addr), Vals vv us /\ kl.length = us.length /\ bs.length = us.length /\ kv = bs.map V.ref /\ es = (kl.zip (bs.zip us)).map (entryOfKey (nestedKind P wo)) /\ ∀ x ∈ kl.zip (bs.zip us), (nestedKind P wo).is h x.1 x.2.1
  | es, kv, vv, [], kl, en, rs, hk => by
    obtain rfl := map_nil_some hk
    cases en
    unfold Reps at rs
    exact ⟨[], [], .nil, rfl, rfl, rs, rfl, fun e he => (nomatch he)⟩
  | es, kv, vv, k :: ks, kl, en, rs, hk => by
    obtain ⟨a, r, rfl, e1, e2⟩ := map_cons_some hk
    unfold Reps at rs
    obtain ⟨v, s, rfl, p1, p2⟩ := rs
    cases en with
    | @cons e _ _ _ _ _ _ _ q1 q2 q3 q4 =>
      obtain ⟨us, bs, rv, ln, ln2, ekv, ees, f⟩ := ents_T ok q4 p2 e2
      obtain ⟨n1, n2, ws, rfl⟩ := kT_nk e1
      have ni := nested_is ok _ _ _ _ n1 p1 q1
      unfold Rep at p1
      obtain ⟨b, vs, rfl, _, _, _⟩ := p1
      have ek : e.key = .ref b := q1
      refine ⟨_ :: us, b :: bs, .cons q2 rv, by simp [ln], by simp [ln2], by rw [ekv]; rfl, ?_, fun x hx => ?_⟩
      · rw [List.zip_cons_cons, List.zip_cons_cons, List.map_cons, <- ees]
        congr 1
        obtain ⟨eh, ekk, ev⟩ := e
        show DictEntry.mk eh ekk ev = ⟨NestedKey.hash wo a, .ref b, ev⟩
        have h1 : eh = NestedKey.hash wo a := by rw [<- hash_T e1]; exact q3
        have h2 : ekk = .ref b := ek
        rw [h1, h2]
      · rw [List.zip_cons_cons, List.zip_cons_cons] at hx
        rcases List.mem_cons.mp hx with z | z
        · subst z
          rw [ek] at ni
          exact ⟨ni, n2⟩
        · exact f x z
end Mi
end
section
namespace Mi
open PySem PySem.Spec PyProof.Rows L2
variable {G : Kt} {X : Cx} {adr : Ad} {Y : WX}
theorem valueAt_cons {K : Type} [DecidableEq K] (a : K) (x : Value) (r : List (K × Value)) (k : K) : valueAt ((a, x) :: r) k = if a = k then some x else valueAt r k := by
  unfold valueAt
  rw [List.find?_cons]
  by_cases e : a = k <;> simp [e]
theorem atKey_cons {K : Type} [DecidableEq K] (a : K) (b : Addr) (x : Value) (r : List (K × Addr × Value)) (k : K) : atKey ((a, b, x) :: r) k = if a = k then some (b, x) else atKey r k := by
  unfold atKey
  rw [List.find?_cons]
  by_cases e : a = k <;> simp [e]
def Found (G : Kt) (T : Tie) (H : Hp) (o : Option W) (u : Option Value) : Prop := match o with
  | some w => ∃ v x, u = some x /\ RelV v x /\ Rep G T H w v
  | none => u = none
theorem look_S {T : Tie} {H : Hp} {k : W} {κ : Key} (hk : kS k = some κ) : ∀ {ks vs : List W} {kl : List Key} {us : List Value} {vv : List V}, ks.map kS = kl.map some -> Reps G T H vs vv -> Vals vv us -> ks.length = vs.length -> Found G T H (dfind k ks vs) (valueAt (kl.zip us) κ)
  | [], vs, kl, us, vv, e, rs, rv, ln => by
    obtain rfl := map_nil_some e
    rfl
  | x :: ks, [], kl, us, vv, e, rs, rv, ln => by cases ln
  | x :: ks, w :: vs, kl, us, vv, e, rs, rv, ln => by
    obtain ⟨a, r, rfl, e1, e2⟩ := map_cons_some e
    unfold Reps at rs
    obtain ⟨v, s, rfl, p1, p2⟩ := rs
    cases rv with
    | @cons _ u _ us q1 q2 =>
      rw [List.zip_cons_cons, valueAt_cons]
      unfold dfind
      rw [kEq_S e1 hk]
      by_cases z : a = κ
      · rw [if_pos z, decide_eq_true z]
        exact ⟨v, u, rfl, q1, p1⟩
      · rw [if_neg z, decide_eq_false z]
        exact look_S hk e2 p2 q2 (by simpa using ln)
theorem look_T {T : Tie} {H : Hp} {k : W} {κ : NestedKey} (hk : kT k = some κ) : ∀ {ks vs : List W} {kl : List NestedKey} {bs : List Addr} {us : List Value} {vv : List V}, ks.map kT = kl.map some -> Reps G T H vs vv -> Vals vv us -> ks.length = vs.length -> bs.length = us.length -> Found G T H (dfind k ks vs) ((atKey (kl.zip (bs.zip us)) κ).map (·.2))
  | [], vs, kl, bs, us, vv, e, rs, rv, ln, lb => by
    obtain rfl := map_nil_some e
    rfl
  | x :: ks, [], kl, bs, us, vv, e, rs, rv, ln, lb => by cases ln
  | x :: ks, w :: vs, kl, bs, us, vv, e, rs, rv, ln, lb => by
    obtain ⟨a, r, rfl, e1, e2⟩ := map_cons_some e
    unfold Reps at rs
    obtain ⟨v, s, rfl, p1, p2⟩ := rs
    cases rv with
    | @cons _ u _ us q1 q2 =>
      cases bs with
      | nil => cases lb
      | cons b bs =>
      rw [List.zip_cons_cons, List.zip_cons_cons, atKey_cons]
      unfold dfind
      rw [kEq_T e1 hk]
      by_cases z : a = κ
      · rw [if_pos z, decide_eq_true z]
        exact ⟨v, u, rfl, q1, p1⟩
      · rw [if_neg z, decide_eq_false z]
        exact look_T hk e2 p2 q2 (by simpa using ln) (by simpa using lb)
theorem dhas_is : ∀ (k : W) (ks vs : List W), ks.length = vs.length -> dhas k ks = (dfind k ks vs).isSome
  | k, [], vs, h => by simp [dhas, dfind]
  | k, x :: ks, [], h => by cases h
  | k, x :: ks, v :: vs, h => by
    unfold dhas dfind
    cases kEq x k with
    | true => rfl
    | false => exact dhas_is k ks vs (by simpa using h)
def dctOf (w : W) (h : MH) : Option (List W × List W) := match w with
  | .dct ks vs => some (ks, vs)
  | .ref n => match h.get n with
    | some (.dct ks vs) => some (ks, vs)
    | _ => none
  | _ => none
structure DAt (G : Kt) (T : Tie) (H : Hp) (ks vs : List W) (a : Addr) (o : Obj) (kv vv : List V) : Prop where
  sm : (a == sysModules) = false
  ok : KeysOk ks
  at_ : H a = some (exact o a)
  d : DictO o kv vv (ks.map (hashW G.w))
  rk : Reps G T H ks kv
  rv : Reps G T H vs vv
theorem dct_at {T : Tie} {h : MH} {H : Hp} {w : W} {v : V} {ks vs : List W} (hr : Hrel G T h H) (rp : Rep G T H w v) (e : dctOf w h = some (ks, vs)) : ∃ a o kv vv, v = .ref a /\ DAt G T H ks vs a o kv vv := by
  unfold dctOf at e
  split at e
  · cases e
    unfold Rep at rp
    obtain ⟨a, o, kv, vv, e, f, sm, ko, q, d, r1, r2⟩ := rp
    exact ⟨a, o, kv, vv, e, sm, ko, q, d, r1, r2⟩
  · split at e
    · rename_i e2
      cases e
      obtain ⟨a, ea, ro⟩ := hr.obj _ _ e2
      unfold Rep at rp
      obtain ⟨o, kv, vv, sm, ko, q, d, r1, r2⟩ := ro
      exact ⟨a, o, kv, vv, rp.2 a ea, sm, ko, q, d, r1, r2⟩
    · cases e
  · cases e
theorem DAt.len {T : Tie} {H : Hp} {ks vs : List W} {a : Addr} {o : Obj} {kv vv : List V} (D : DAt G T H ks vs a o kv vv) : ks.length = vs.length := by
  obtain ⟨_, es, ep, _, en⟩ := D.d
  have h1 := D.rk.length
  have h2 := D.rv.length
  have h3 := en.len
  omega
theorem DAt.split {P : Program} {wo : World} (eP : G.P = P) (ew : G.w = wo) {T : Tie} {H : Hp} {hp : Heap} (ok : HOk P wo H hp) {ks vs : List W} {a : Addr} {o : Obj} {kv vv : List V} (D : DAt G T H ks vs a o kv vv) {k : W} {vk : V} {uk : Value} (fit : keyFit k ks = true) (rk : Rep G T H k vk) (ru : RelV vk uk) :
    (∃ (κ : Key) (kl : List Key) (us : List Value), kS k = some κ /\ ks.map kS = kl.map some /\ kl.Nodup /\ Vals vv us /\ kl.length = us.length /\ keyIs κ uk = true /\ hp.DictOf (mixKind P wo) a (kl.zip us)) \/
    (∃ (κ : NestedKey) (kl : List NestedKey) (us : List Value) (b : Addr) (bs : List Addr), kT k = some κ /\ ks.map kT = kl.map some /\ kl.Nodup /\ Vals vv us /\ kl.length = us.length /\ bs.length = us.length /\ kv = bs.map V.ref /\ vk = .ref b /\ uk = .ref b /\ (nestedKind P wo).is hp κ b /\ hp.DictOfH (nestedKind P wo) a (kl.zip (bs.zip us))) := by
  subst eP ew
  have ea := exact_at ok D.at_
  obtain ⟨xd, es, ep, ed, en⟩ := D.d
  have kinds : ks = [] \/ (∃ x r, ks = x :: r) := by cases ks with | nil => exact .inl rfl | cons x r => exact .inr ⟨x, r, rfl⟩
  unfold keyFit at fit
  split at fit
  · rename_i sc
    obtain ⟨κ, hκ⟩ := scal_kS sc
    have hkl : ∃ kl : List Key, ks.map kS = kl.map some /\ kl.Nodup := by
      rcases D.ok.2 with z | ⟨kl, hkl, nd⟩
      · exact z
      · cases ks with
        | nil => exact ⟨[], rfl, List.nodup_nil⟩
        | cons x r =>
          obtain ⟨c, _, _, e1, _⟩ := map_cons_some hkl
          have fit : scal x = true := fit
          rw [kT_scal e1] at fit
          cases fit
    obtain ⟨kl, hkl, nd⟩ := hkl
    obtain ⟨us, rv, ln, f, pr⟩ := ents_S (P := G.P) en D.rk hkl
    refine .inl ⟨κ, kl, us, hκ, hkl, nd, rv, ln, keyIs_rel hκ rk ru, o, es, ep, ea, xd, ed, fun e he => f e (by simpa using he), pr, ?_⟩
    rw [List.map_fst_zip (by omega)]
    exact nd
  · split at fit
    · rename_i κ hκ
      have hkl : ∃ kl : List NestedKey, ks.map kT = kl.map some /\ kl.Nodup := by
        rcases D.ok.2 with ⟨kl, hkl, nd⟩ | z
        · cases ks with
          | nil => exact ⟨[], rfl, List.nodup_nil⟩
          | cons x r =>
            obtain ⟨c, _, _, e1, _⟩ := map_cons_some hkl
            have fit : (!(scal x)) = true := fit
            rw [kS_scal e1] at fit
            cases fit
        · exact z
      obtain ⟨kl, hkl, nd⟩ := hkl
      obtain ⟨us, bs, rv, ln, ln2, ekv, ees, f⟩ := ents_T ok en D.rk hkl
      obtain ⟨n1, n2, ws, rfl⟩ := kT_nk hκ
      have ni := nested_is ok _ _ _ _ n1 rk ru
      unfold Rep at rk
      obtain ⟨b, ys, rfl, _⟩ := rk
      obtain rfl : uk = .ref b := ru
      refine .inr ⟨κ, kl, us, b, bs, hκ, hkl, nd, rv, ln, ln2, ekv, rfl, rfl, ⟨ni, n2⟩, o, es, ep, ea, xd, ed, ees, f, ?_⟩
      rw [List.map_fst_zip (by rw [List.length_zip]; omega)]
      exact nd
    · cases fit
section
variable {prog : Program} {w : World} {A : Around} {E : Value -> Shared -> Prop} {s : Shared}
end
theorem room8 {A : Around} (hu : A.units + 64 < cLine) : A.in1.units + 8 < cLine := by show A.units + 1 + 8 < cLine; omega
def wInD (neg : Bool) : F2 := fun a b h => match dctOf b h with
  | some (ks, _) => match keyFit a ks with
    | true => some (.bl (xor neg (dhas a ks)))
    | false => none
  | none => none
theorem Found.some_eq {T : Tie} {H : Hp} {o : Option W} {u : Option Value} (f : Found G T H o u) : u.isSome = o.isSome := by
  cases o with
  | none => have e : u = none := f; rw [e]; rfl
  | some w => obtain ⟨v, x, e, _⟩ := f; rw [e]; rfl
theorem mo_inD (hu : X.A.units + 64 < cLine) : MO X adr (compareOp .In) (wInD false) := by
  intro pins s σ H x y v u Q I rx ry ⟨T, h, w1, w2, w, hr, r1, r2, e, q⟩
  unfold wInD at e
  split at e
  · rename_i ks vs ed
    split at e
    · rename_i fit
      cases e
      obtain ⟨a, o, kv, vv, rfl, D⟩ := dct_at hr r2 ed
      obtain rfl : u = .ref a := ry
      rcases D.split (G := kt X adr) rfl rfl I.hok fit r1 rx with ⟨κ, kl, us, hκ, hkl, nd, rv, ln, ki, dd⟩ | ⟨κ, kl, us, b, bs, hκ, hkl, nd, rv, ln, ln2, ekv, rfl, rfl, ki, dd⟩
      · have f := look_S hκ hkl D.rv rv D.len
        refine wpAny_in_of ki D.sm dd.mapOf ⟨.bl _, H, I.tok _, rfl, ?_⟩
        rw [f.some_eq, <- dhas_is _ _ _ D.len]
        simpa using Hands.bl hr q
      · have f := look_T hκ hkl D.rv rv D.len ln2
        refine wpAny_in_heap (room8 hu) ki D.sm dd ⟨.bl _, H, I.tok _, rfl, ?_⟩
        have z := f.some_eq
        rw [Option.isSome_map] at z
        rw [z, <- dhas_is _ _ _ D.len]
        simpa using Hands.bl hr q
    · cases e
  · cases e
theorem mo_notInD (hu : X.A.units + 64 < cLine) : MO X adr (compareOp .NotIn) (wInD true) := by
  intro pins s σ H x y v u Q I rx ry ⟨T, h, w1, w2, w, hr, r1, r2, e, q⟩
  unfold wInD at e
  split at e
  · rename_i ks vs ed
    split at e
    · rename_i fit
      cases e
      obtain ⟨a, o, kv, vv, rfl, D⟩ := dct_at hr r2 ed
      obtain rfl : u = .ref a := ry
      rcases D.split (G := kt X adr) rfl rfl I.hok fit r1 rx with ⟨κ, kl, us, hκ, hkl, nd, rv, ln, ki, dd⟩ | ⟨κ, kl, us, b, bs, hκ, hkl, nd, rv, ln, ln2, ekv, rfl, rfl, ki, dd⟩
      · have f := look_S hκ hkl D.rv rv D.len
        refine wpAny_notIn_of ki D.sm dd.mapOf ⟨.bl _, H, I.tok _, rfl, ?_⟩
        rw [f.some_eq, <- dhas_is _ _ _ D.len]
        simpa using Hands.bl hr q
      · have f := look_T hκ hkl D.rv rv D.len ln2
        refine wpAny_notIn_heap (room8 hu) ki D.sm dd ⟨.bl _, H, I.tok _, rfl, ?_⟩
        have z := f.some_eq
        rw [Option.isSome_map] at z
        rw [z, <- dhas_is _ _ _ D.len]
        simpa using Hands.bl hr q
    · cases e
  · cases e
def wIn (neg : Bool) : F2 := fun a b h => match b with
  | .str y => wInS neg a (.str y) h
  | .tup y => wInS neg a (.tup y) h
  | .lst y => wInS neg a (.lst y) h
  | .kt0 => wInS neg a .kt0 h
  | b => wInD neg a b h
theorem MO.case {f : Value -> Value -> Sem Value} {F : F2} (ho : MO X adr f F) {w1 w2 w : W} {h : MH} (e : F w1 w2 h = some w) :
    ∃ r, OpR X f r /\ ∀ T H v1 v2 Q, Hrel (kt X adr) T h H -> Rep (kt X adr) T H w1 v1 -> Rep (kt X adr) T H w2 v2 -> Hands (kt X adr) T h H w Q -> r v1 v2 H Q :=
  ⟨_, ho, fun T H v1 v2 Q hr r1 r2 q => ⟨T, h, w1, w2, w, hr, r1, r2, e, q⟩⟩
theorem mo_in (hu : X.A.units + 64 < cLine) : MO X adr (compareOp .In) (wIn false) := MO.mk fun w1 w2 h w e => by
  unfold wIn at e
  split at e
  · exact (mo_inS hu).case e
  · exact (mo_inS hu).case e
  · exact (mo_inS hu).case e
  · exact (mo_inS hu).case e
  · exact (mo_inD hu).case e
theorem mo_notIn (hu : X.A.units + 64 < cLine) : MO X adr (compareOp .NotIn) (wIn true) := MO.mk fun w1 w2 h w e => by
  unfold wIn at e
  split at e
  · exact (mo_notInS hu).case e
  · exact (mo_notInS hu).case e
  · exact (mo_notInS hu).case e
  · exact (mo_notInS hu).case e
  · exact (mo_notInD hu).case e
end Mi
end
section
namespace Mi
open PySem PySem.Spec PyProof.Rows L2
variable {G : Kt} {X : Cx} {adr : Ad} {Y : WX}
def lstOf (w : W) (h : MH) : Option (List W) := match w with
  | .lst ws => some ws
  | .ref n => match h.get n with
    | some (.lst ws) => some ws
    | _ => none
  | _ => none
theorem lst_at {T : Tie} {h : MH} {H : Hp} {w : W} {v : V} {ws : List W} (hr : Hrel G T h H) (rp : Rep G T H w v) (e : lstOf w h = some ws) : ∃ a vs, v = .ref a /\ H a = some (.lst vs) /\ Reps G T H ws vs := by
  unfold lstOf at e
  split at e
  · cases e
    unfold Rep at rp
    obtain ⟨a, vs, e, f, q, r⟩ := rp
    exact ⟨a, vs, e, q, r⟩
  · split at e
    · rename_i e2
      cases e
      obtain ⟨a, ea, vs, q, r⟩ := hr.obj _ _ e2
      unfold Rep at rp
      exact ⟨a, vs, rp.2 a ea, q, r⟩
    · cases e
  · cases e
theorem tup_at {T : Tie} {H : Hp} {v : V} {ws : List W} (rp : Rep G T H (.tup ws) v) : ∃ a vs, v = .ref a /\ H a = some (.tup vs) /\ Reps G T H ws vs := by
  unfold Rep at rp
  obtain ⟨a, vs, e, f, q, r⟩ := rp
  exact ⟨a, vs, e, q, r⟩
theorem atI_reps {T : Tie} {H : Hp} {ws : List W} {vs : List V} (r : Reps G T H ws vs) {i : Int} {w : W} (e : atI ws i = some w) : ∃ v, atI vs i = some v /\ Rep G T H w v := by
  unfold atI at e ⊢
  rw [<- r.length]
  cases q : ixN ws.length i with
  | none => rw [q] at e; cases e
  | some j =>
    rw [q] at e
    exact r.get e
def wIx : F2 := fun a b h => match a with
  | .tup ws => match b with
    | .int i => atI ws i
    | _ => none
  | .str z => match b with
    | .int i => match lenLe z.length with
      | true => match atI z.cps.toList i with
        | some c => some (.str ⟨#[c]⟩)
        | none => none
      | false => none
    | _ => none
  | .scr ns => match b with
    | .int i => atI (intsW ns) i
    | _ => none
  | a => match lstOf a h with
    | some ws => match b with
      | .int i => atI ws i
      | _ => none
    | none => match dctOf a h with
      | some (ks, vs) => match keyFit b ks with
        | true => dfind b ks vs
        | false => none
      | none => none
theorem ixr_dict (hu : X.A.units + 64 < cLine) : IxR X (rW (kt X adr) fun a b h => match dctOf a h with
      | some (ks, vs) => match keyFit b ks with
        | true => dfind b ks vs
        | false => none
      | none => none) := by
  intro value slice pins s σ H x y v u Q I rx ry ⟨T, h, w1, w2, w, hr, r1, r2, e, q⟩ hs
  dsimp only at e
  split at e
  · rename_i ks vs ed
    split at e
    · rename_i fit
      obtain ⟨a, o, kv, vv, rfl, D⟩ := dct_at hr r1 ed
      obtain rfl : v = .ref a := rx
      have ty : s.TypeIs (.ref a) "dict" := ⟨o, exact_at I.hok D.at_, D.d.1.1⟩
      refine tail_any ty PySem.F.slot_dict_getitem.lookup ?_ hs
      rcases D.split (G := kt X adr) rfl rfl I.hok fit r2 ry with ⟨κ, kl, us, hκ, hkl, nd, rv, ln, ki, dd⟩ | ⟨κ, kl, us, b, bs, hκ, hkl, nd, rv, ln, ln2, ekv, rfl, rfl, ki, dd⟩
      · have f := look_S hκ hkl D.rv rv D.len
        rw [e] at f
        obtain ⟨v', x', e', rx', rp'⟩ := f
        exact wpAny_getItem_of ki dd.mapOf e' ⟨v', H, I.tok _, rx', Hands.same hr rp' q⟩
      · have f := look_T hκ hkl D.rv rv D.len ln2
        rw [e] at f
        obtain ⟨v', x', e', rx', rp'⟩ := f
        obtain ⟨p, hp, hp2⟩ := Option.map_eq_some_iff.mp e'
        refine wpAny_getItem_heap (room8 hu) ki dd hp ?_
        rw [hp2]
        exact ⟨v', H, I.tok _, rx', Hands.same hr rp' q⟩
    · cases e
  · cases e
theorem ixr (hu : X.A.units + 64 < cLine) : IxR X (rW (kt X adr) wIx) := by
  intro value slice pins s σ H x y v u Q I rx ry ⟨T, h, w1, w2, w, hr, r1, r2, e, q⟩ hs
  unfold wIx at e
  split at e
  · split at e
    · obtain ⟨a, vs, rfl, qa, rs⟩ := tup_at r1
      obtain ⟨z, ez, rz⟩ := atI_reps rs e
      exact ix_tup value slice pins s σ H _ _ v u Q I rx ry ⟨a, vs, _, z, rfl, rep_int r2, .inl (.inl qa), ez, Hands.same hr rz q⟩ hs
    · cases e
  · split at e
    · split at e
      · split at e
        · rename_i c ec
          cases e
          exact ix_str value slice pins s σ H _ _ v u Q I rx ry ⟨_, _, c, rep_str r1, rep_int r2, lenLe_iff (by assumption), ec, Hands.str hr q⟩ hs
        · cases e
      · cases e
    · cases e
  · split at e
    · obtain ⟨a, rfl, qa⟩ := scr_at r1
      obtain ⟨z, ez, rz⟩ := atI_reps (intsW_rep (G := kt X adr) (T := T) (H := H) _) e
      exact ix_list value slice pins s σ H _ _ v u Q I rx ry ⟨a, _, _, z, rfl, rep_int r2, qa, ez, Hands.same hr rz q⟩ hs
    · cases e
  · split at e
    · rename_i ws el
      split at e
      · obtain ⟨a, vs, rfl, qa, rs⟩ := lst_at hr r1 el
        obtain ⟨z, ez, rz⟩ := atI_reps rs e
        exact ix_list value slice pins s σ H _ _ v u Q I rx ry ⟨a, vs, _, z, rfl, rep_int r2, .inl (.inl qa), ez, Hands.same hr rz q⟩ hs
      · cases e
    · exact ixr_dict hu value slice pins s σ H x y v u Q I rx ry ⟨T, h, w1, w2, w, hr, r1, r2, e, q⟩ hs
theorem me_ix {a b : Expr} {ma mb : EM} {pos : Pos} (hu : X.A.units + 64 < cLine) (ha : ME X adr Y a ma) (hb : ME X adr Y b mb) (hs : PlainIx b) : ME X adr Y (.Subscript a b pos) (mBin wIx ma mb) :=
  pe_imp (pe_ix (ixr hu) ha hb hs) (rd_op op2_rW)
def cutW (xs : List W) (lo hi : Option Int) : List W := (xs.drop (HT.sIx xs.length 0 lo)).take (HT.sIx xs.length xs.length hi - HT.sIx xs.length 0 lo)
theorem reps_cut {T : Tie} {H : Hp} {ws : List W} {vs : List V} (r : Reps G T H ws vs) (lo hi : Option Int) : Reps G T H (cutW ws lo hi) (cutV vs lo hi) := by
  unfold cutW cutV
  rw [<- r.length]
  exact (r.drop _).take _
def wSl (a : W) (lo hi : Option Int) (h : MH) : Option W := match a with
  | .tup ws => some (.tup (cutW ws lo hi))
  | .scr ns => some (.lst (cutW (intsW ns) lo hi))
  | a => match lstOf a h with
    | some ws => some (.lst (cutW ws lo hi))
    | none => none
def rS (G : Kt) : V -> Option Int -> Option Int -> Hp -> VK -> Prop := fun x lo hi H Q => ∃ T h w1 w, Hrel G T h H /\ Rep G T H w1 x /\ wSl w1 lo hi h = some w /\ Hands G T h H w Q
theorem slr : SlR X (rS (kt X adr)) := by
  intro pins s σ H x v vl vu lo hi sl Q I rx hs pl pu ⟨T, h, w1, w, hr, r1, e, q⟩
  unfold wSl at e
  split at e
  · cases e
    have r0 := r1
    obtain ⟨a, vs, rfl, qa, rs⟩ := tup_at r1
    refine sl_tupA pins s σ H _ v vl vu lo hi sl Q I rx hs pl pu ⟨a, vs, rfl, .inl (.inl qa), fun z => ?_, fun _ => Hands.tup hr (reps_cut rs lo hi) q⟩
    rename_i ws
    have e : cutW ws lo hi = ws := by
      unfold cutW
      rw [rs.length, z.1, z.2, Nat.sub_zero, <- rs.length]
      simp
    rw [e] at q
    exact Hands.same hr r0 q
  · cases e
    obtain ⟨a, rfl, qa⟩ := scr_at r1
    exact sl_list pins s σ H _ v vl vu lo hi sl Q I rx hs pl pu ⟨a, _, rfl, qa, Hands.lst hr (reps_cut (intsW_rep _) lo hi) q⟩
  · split at e
    · rename_i ws el
      cases e
      obtain ⟨a, vs, rfl, qa, rs⟩ := lst_at hr r1 el
      exact sl_list pins s σ H _ v vl vu lo hi sl Q I rx hs pl pu ⟨a, vs, rfl, .inl (.inl qa), Hands.lst hr (reps_cut rs lo hi) q⟩
    · cases e
abbrev OM := Me -> MH -> R (Option Int)
def rdO (G : Kt) (Y : WX) (m : OM) : TO := fun σ H Q => ∃ T me h, Hrel G T h H /\ Erel G T me σ H /\ Res G (fun (_ : Tie) (_ : Hp) (a b : Option Int) => a = b) Y T H σ (m me h) Q
def MO_ (X : Cx) (adr : Ad) (Y : WX) (e : Option Expr) (m : OM) : Prop := PO X e (rdO (kt X adr) Y m)
def oNone : OM := fun _ h => .ok none h
def oSome (m : EM) : OM := fun me h => (m me h).bind fun w h => match w with
  | .int i => .ok (some i) h
  | _ => .stuck
theorem po_imp {e : Option Expr} {t u : TO} (h : PO X e t) (i : ∀ σ H Q, u σ H Q -> t σ H Q) : PO X e u := ⟨fun pins s σ H Q I q => h.run pins s σ H Q I (i σ H Q q)⟩
theorem mo_none : MO_ X adr Y none oNone := po_imp po_none fun σ H Q ⟨T, me, h, hr, he, q⟩ => q T H none hr (Ex.rfl' hr.ok) rfl
theorem mo_some {e : Expr} {m : EM} (he : ME X adr Y e m) : MO_ X adr Y (some e) (oSome m) := po_imp (po_some he) fun σ H Q ⟨T, me, h, hr, hE, q⟩ => ⟨T, me, h, hr, hE, Res.bind q fun w h1 _ T1 H1 v hr1 x1 rp1 q1 => by
  cases w with
  | int i => exact ⟨i, rep_int rp1, q1 T1 H1 _ hr1 (Ex.rfl' hr1.ok) rfl⟩
  | _ => exact q1.elim⟩
def mSl (m : EM) (lo hi : OM) : EM := fun me h => (m me h).bind fun w h => (lo me h).bind fun l h => (hi me h).bind fun u h => ofO (wSl w l u h) h
theorem me_slice {e : Expr} {lo hi : Option Expr} {m : EM} {ml mh : OM} {pos p2 : Pos} (he : ME X adr Y e m) (hl : MO_ X adr Y lo ml) (hh : MO_ X adr Y hi mh) : ME X adr Y (.Subscript e (.Slice lo hi none p2) pos) (mSl m ml mh) :=
  pe_imp (pe_slice slr he hl hh) fun σ H Q ⟨T, me, h, hr, hE, q⟩ => ⟨T, me, h, hr, hE, Res.bind q fun w h1 _ T1 H1 v1 hr1 x1 rp1 q1 => ⟨T1, me, h1, hr1, hE.ex x1, Res.bind q1 fun l h2 _ T2 H2 l' hr2 x2 el q2 =>
    ⟨T2, me, h2, hr2, (hE.ex x1).ex x2, Res.bind q2 fun u h3 _ T3 H3 u' hr3 x3 eu q3 => by
      cases el
      cases eu
      cases e : wSl w l u h3 with
      | none => rw [e] at q3; exact q3.elim
      | some z =>
        rw [e] at q3
        exact ⟨T3, h3, w, z, hr3, rep_ex x3 _ _ (rep_ex x2 _ _ rp1), e, q3⟩⟩⟩⟩
def mTup (as : AM) : EM := fun me h => (as me h).bind fun xs h => ofO (wIf (lenLe xs.length) (.tup xs)) h
def mLst (as : AM) : EM := fun me h => (as me h).bind fun xs h => ofO (wIf (lenLe xs.length) (.lst xs)) h
def mBox (as : AM) : EM := fun me h => (as me h).bind fun xs h => match lenLe xs.length with
  | true => .ok (.ref h.nx) (h.new (.lst xs))
  | false => .stuck
section
variable {es : List Expr} {as : AM} {pos : Pos}
theorem ofO_is {o : Option W} {h : MH} {T : Tie} {H : Hp} {σ : Sl} {Q : VK} (q : ResV G Y T H σ (ofO o h) Q) : ∃ w, o = some w /\ Hands G T h H w Q := by
  cases o with
  | none => exact q.elim
  | some w => exact ⟨w, rfl, q⟩
theorem me_tup {x1} (ha : MA X adr Y es as) : ME X adr Y (.Tuple es x1 pos) (mTup as) := pe_imp (pe_tup ha) fun σ H Q ⟨T, me, h, hr, hE, q⟩ => ⟨T, me, h, hr, hE, Res.bind q fun xs h1 _ T1 H1 vs hr1 x1 rp1 q1 => by
  obtain ⟨w, e, q1⟩ := ofO_is q1
  obtain ⟨l, rfl⟩ := wIf_is e
  exact ⟨by rw [<- rp1.length]; exact lenLe_iff l, Hands.tup hr1 rp1 q1⟩⟩
theorem me_lst (ha : MA X adr Y es as) : ME X adr Y (.List es pos) (mLst as) := pe_imp (pe_lst ha) fun σ H Q ⟨T, me, h, hr, hE, q⟩ => ⟨T, me, h, hr, hE, Res.bind q fun xs h1 _ T1 H1 vs hr1 x1 rp1 q1 => by
  obtain ⟨w, e, q1⟩ := ofO_is q1
  obtain ⟨l, rfl⟩ := wIf_is e
  exact ⟨by rw [<- rp1.length]; exact lenLe_iff l, Hands.lst hr1 rp1 q1⟩⟩
theorem box_laid {T : Tie} {h : MH} {H : Hp} (hr : Hrel G T h H) {p : Addr} (hp : H p = none) {ws : List W} {vs : List V} (r : Reps G T H ws vs) :
    Hrel G (T.add p) (h.new (.lst ws)) (upd H p (.lst vs)) /\ Ex T (T.add p) H (upd H p (.lst vs)) /\ Rep G (T.add p) (upd H p (.lst vs)) (.ref h.nx) (.ref p) :=
  box_new hr hp fun f => ⟨vs, upd_same, f _ _ r⟩
theorem me_box (ha : MA X adr Y es as) : ME X adr Y (.List es pos) (mBox as) := pe_imp (pe_lst ha) fun σ H Q ⟨T, me, h, hr, hE, q⟩ => ⟨T, me, h, hr, hE, Res.bind q fun xs h1 _ T1 H1 vs hr1 x1 rp1 q1 => by
  cases l : lenLe xs.length with
  | false => rw [l] at q1; exact q1.elim
  | true =>
    rw [l] at q1
    refine ⟨by rw [<- rp1.length]; exact lenLe_iff l, fun p hp => ?_⟩
    obtain ⟨a, b, c⟩ := box_laid hr1 hp rp1
    exact q1 _ _ _ a b c⟩
def seqW (w : W) (h : MH) : Option (List W) := match w with
  | .tup ws => some ws
  | .scr ns => some (intsW ns)
  | .kt0 => some []
  | w => lstOf w h
theorem seq_at {T : Tie} {h : MH} {H : Hp} {w : W} {v : V} {ws : List W} (hr : Hrel G T h H) (rp : Rep G T H w v) (e : seqW w h = some ws) : ∃ a vs, v = .ref a /\ (SqT G.K H a vs \/ SqL G.K H a vs) /\ Reps G T H ws vs := by
  unfold seqW at e
  split at e
  · cases e
    obtain ⟨a, vs, e, q, r⟩ := tup_at rp
    exact ⟨a, vs, e, .inl (.inl (.inl q)), r⟩
  · cases e
    obtain ⟨a, e, q⟩ := scr_at rp
    exact ⟨a, _, e, .inr q, intsW_rep _⟩
  · cases e
    unfold Rep at rp
    obtain ⟨a, e, o, n, k1, k2, k3⟩ := rp
    exact ⟨a, [], e, .inl (.inr ⟨o, #[], n, k1, k2, k3, Nat.zero_le _, .nil⟩), Reps.nil⟩
  · obtain ⟨a, vs, e, q, r⟩ := lst_at hr rp e
    exact ⟨a, vs, e, .inr (.inl (.inl q)), r⟩
end
end Mi
end
section
namespace Mi
open PySem PySem.Spec PyProof.Rows L2
variable {G : Kt} {X : Cx} {adr : Ad} {Y : WX}
def rA (G : Kt) (F : FA) : List V -> Hp -> VK -> Prop := fun vs H Q => ∃ T h ws w, Hrel G T h H /\ Reps G T H ws vs /\ F ws h = some w /\ Hands G T h H w Q
theorem callM_rA {F : FA} : CallM G (rA G F) F := fun T h H ws vs hr rs w e Q q => ⟨T, h, ws, w, hr, rs, e, q⟩
def MC (X : Cx) (adr : Ad) (f : Value) (F : FA) : Prop := CallR X f (rA (kt X adr) F)
theorem MC.mk {f : Value} {F : FA} (k : ∀ ws h w, F ws h = some w -> ∃ r, CallR X f r /\ ∀ T H vs Q, Hrel (kt X adr) T h H -> Reps (kt X adr) T H ws vs -> Hands (kt X adr) T h H w Q -> r vs H Q) : MC X adr f F := by
  intro pins s σ H vs us Q I rv ⟨T, h, ws, w, hr, rs, e, q⟩
  obtain ⟨r, ho, k⟩ := k ws h w e
  exact ho pins s σ H vs us Q I rv (k T H vs Q hr rs q)
section
variable {x : Str} {id : String} {F : FA} {e : Expr} {es : List Expr} {as : AM} {p pos : Pos}
theorem me_bi (hc : MC X adr (.builtin id) F) (hg : Gl X x) (hm : X.mg x = none) (hv : bootBuiltins x = some (.builtin id)) (ha : MA X adr Y (e :: es) as)
    (hn : x ≠ "__name__" := by decide) (hdb : (x == ("__debug__" : Str)) = false := by decide) (he : starEach (e :: es) X.env = (false, eval e X.env) :: starEach es X.env := by rfl) (hpl : (backTo pos (starEach es X.env)).any (·.1) = false := by rfl) :
    ME X adr Y (.Call (.Name x p) (e :: es) [] pos) (mCallB F as) := me_callB hc callM_rA hg hm hv ha hn hdb he hpl
theorem me_bt (hc : MC X adr (.type id) F) (hg : Gl X x) (hm : X.mg x = none) (hv : bootBuiltins x = some (.type id)) (ha : MA X adr Y (e :: es) as)
    (hn : x ≠ "__name__" := by decide) (hdb : (x == ("__debug__" : Str)) = false := by decide) (he : starEach (e :: es) X.env = (false, eval e X.env) :: starEach es X.env := by rfl) (hpl : (backTo pos (starEach es X.env)).any (·.1) = false := by rfl) :
    ME X adr Y (.Call (.Name x p) (e :: es) [] pos) (mCallB F as) := me_callTy hc callM_rA hg hm hv ha hn hdb he hpl
theorem me_ty {n : Nat} (hg : Gl X x) (hm : X.mg x = none) (hv : bootBuiltins x = some (.type (tyName n))) (hn : x ≠ "__name__" := by decide) (hd : (x == ("__debug__" : Str)) = false := by decide) : ME X adr Y (.Name x pos) (mC (.ty n)) :=
  me_const (v := .ty (tyName n)) (pe_bltn hg hm hv rfl hn hd) fun T H => by unfold Rep; rfl
theorem me_cls {c : Nat} (hg : Gl X x) (hm : X.mg x = some (.ref (adr c))) (hd : (x == ("__debug__" : Str)) = false := by decide) : ME X adr Y (.Name x pos) (mC (.cl c)) :=
  me_const (v := .ref (adr c)) (pe_glob hg hm rfl hd) fun T H => by unfold Rep; rfl
end
theorem reps1 {T : Tie} {H : Hp} {w : W} {vs : List V} (r : Reps G T H [w] vs) : ∃ v, vs = [v] /\ Rep G T H w v := by
  unfold Reps at r
  obtain ⟨v, s, rfl, h, r⟩ := r
  unfold Reps at r
  exact ⟨v, by rw [r], h⟩
theorem reps2 {T : Tie} {H : Hp} {w w2 : W} {vs : List V} (r : Reps G T H [w, w2] vs) : ∃ v v2, vs = [v, v2] /\ Rep G T H w v /\ Rep G T H w2 v2 := by
  unfold Reps at r
  obtain ⟨v, s, rfl, h, r⟩ := r
  obtain ⟨v2, rfl, h2⟩ := reps1 r
  exact ⟨v, v2, rfl, h, h2⟩
def wLen : FA := fun ws h => match ws with
  | [x] => match x with
    | .str z => wIf (lenLe z.length) (.int z.length)
    | x => match seqW x h with
      | some ys => some (.int ys.length)
      | none => match dctOf x h with
        | some (ks, _) => some (.int ks.length)
        | none => none
  | _ => none
theorem mc_lenD : MC X adr (.builtin "len") (fun ws h => match ws with
  | [x] => match dctOf x h with
    | some (ks, _) => some (.int ks.length)
    | none => none
  | _ => none) := by
  intro pins s σ H vs us Q I rv ⟨T, h, ws, w, hr, rs, e, q⟩
  dsimp only at e
  split at e
  · split at e
    · rename_i ks ws ed
      cases e
      obtain ⟨v, rfl, rp⟩ := reps1 rs
      obtain ⟨u, rfl, ru⟩ := rv.one
      obtain ⟨a, o, kv, vv, rfl, D⟩ := dct_at hr rp ed
      obtain rfl : u = .ref a := ru
      have hfit : (ks.length : Int) < 2 ^ 63 := by have := D.ok.1; rw [sizeLine_eq] at this; omega
      rcases D.ok.2 with ⟨kl, hkl, nd⟩ | ⟨kl, hkl, nd⟩
      · obtain ⟨xd, es, ep, ed', en⟩ := D.d
        obtain ⟨us, rv', ln, f, pr⟩ := ents_S (P := X.prog) en D.rk hkl
        have l2 : kl.length = ks.length := by have := congrArg List.length hkl; simpa using this.symm
        have dd : s.heap.DictOf (mixKind X.prog X.w) a (kl.zip us) := ⟨o, es, ep, exact_at I.hok D.at_, xd, ed', fun e he => f e (by simpa using he), pr, by rw [List.map_fst_zip (by omega)]; exact nd⟩
        have l3 : (kl.zip us).length = ks.length := by rw [List.length_zip]; omega
        refine call_len_dict D.sm dd (by rw [l3]; exact hfit) ?_
        rw [l3]
        exact ⟨.int ks.length, H, I.tok _, ⟨_, rfl⟩, Hands.int hr q⟩
      · obtain ⟨xd, es, ep, ed', en⟩ := D.d
        obtain ⟨us, bs, rv', ln, ln2, ekv, ees, f⟩ := ents_T I.hok en D.rk hkl
        have l2 : kl.length = ks.length := by have := congrArg List.length hkl; simpa using this.symm
        have l3 : (kl.zip (bs.zip us)).length = ks.length := by rw [List.length_zip, List.length_zip]; omega
        have dd : s.heap.DictOfH (nestedKind X.prog X.w) a (kl.zip (bs.zip us)) := ⟨o, es, ep, exact_at I.hok D.at_, xd, ed', ees, f, by rw [List.map_fst_zip (by rw [List.length_zip]; omega)]; exact nd⟩
        refine call_len_dictH D.sm dd (by rw [l3]; exact hfit) ?_
        rw [l3]
        exact ⟨.int ks.length, H, I.tok _, ⟨_, rfl⟩, Hands.int hr q⟩
    · cases e
  · cases e
theorem MC.case {f : Value} {F : FA} (ho : MC X adr f F) {ws : List W} {w : W} {h : MH} (e : F ws h = some w) :
    ∃ r, CallR X f r /\ ∀ T H vs Q, Hrel (kt X adr) T h H -> Reps (kt X adr) T H ws vs -> Hands (kt X adr) T h H w Q -> r vs H Q :=
  ⟨_, ho, fun T H vs Q hr rs q => ⟨T, h, ws, w, hr, rs, e, q⟩⟩
theorem mc_len : MC X adr (.builtin "len") wLen := MC.mk fun ws h w e => by
  unfold wLen at e
  split at e
  · split at e
    · obtain ⟨l, rfl⟩ := wIf_is e
      refine ⟨_, call_len_str, fun T H vs Q hr rs q => ?_⟩
      obtain ⟨v, rfl, rp⟩ := reps1 rs
      rw [rep_str rp]
      exact ⟨_, rfl, lenLe_iff l, Hands.int hr q⟩
    · skip
      split at e
      · rename_i ys ey
        cases e
        refine ⟨_, call_len_seq, fun T H vs Q hr rs q => ?_⟩
        obtain ⟨v, rfl, rp⟩ := reps1 rs
        obtain ⟨a, vs, rfl, z, r⟩ := seq_at hr rp ey
        refine ⟨a, vs, rfl, z.elim .inr .inl, ?_⟩
        rw [<- r.length]
        exact Hands.int hr q
      · exact (mc_lenD (X := X) (adr := adr)).case (ws := [_]) (w := w) (h := h) e
  · cases e
def wList : FA := fun ws h => match ws with
  | [x] => match seqW x h with
    | some ys => some (.lst ys)
    | none => match dctOf x h with
      | some (ks, _) => some (.lst ks)
      | none => none
  | _ => none
theorem mc_listD (hc : X.calm = true) : MC X adr (.type "list") (fun ws h => match ws with
  | [x] => match dctOf x h with
    | some (ks, _) => some (.lst ks)
    | none => none
  | _ => none) := by
  intro pins s σ H vs us Q I rv ⟨T, h, ws, w, hr, rs, e, q⟩
  dsimp only at e
  split at e
  · split at e
    · rename_i ks ws ed
      cases e
      obtain ⟨v, rfl, rp⟩ := reps1 rs
      obtain ⟨u, rfl, ru⟩ := rv.one
      obtain ⟨a, o, kv, vv, rfl, D⟩ := dct_at hr rp ed
      obtain rfl : u = .ref a := ru
      obtain ⟨es, ep, ed', en, dr⟩ := D.d.raw (exact_at I.hok D.at_)
      have l1 : ks.length = es.size := by
        have h1 := D.rk.length
        have h2 := en.len.1
        simp at h2; omega
      have hl := D.ok.1
      refine PySem.W.kdl_call (kdl_raw D.sm D.d.1 ed') (I.ok.hd hc) (exact_at I.hok D.at_) (by omega) fun h' tk acc' c' hkeep hS hacc => ?_
      have el : acc'.toList.length = acc'.size := by simp
      have rvv : Vals kv acc'.toList := by
        refine vals_of_at (by rw [el, hacc.1, <- D.rk.length]; exact l1) fun j x w h1 h2 => ?_
        obtain ⟨en', hen, hw⟩ := hacc.2 j w (by rw [<- Array.getElem?_toList]; exact h2)
        obtain ⟨k, y, ek, ey, rk, ry⟩ := en.get (i := j) (e := en') (by simpa using hen)
        rw [h1] at ek
        cases ek
        rw [hw]
        exact rk
      refine ⟨.ref s.heap.objs.size, upd H s.heap.objs.size (.lst kv), I.laid hkeep (Nat.le_refl _) (show ObjOk X.prog X.w _ _ _ (.lst kv) from ⟨by rw [<- D.rk.length]; exact hl, acc'.toList, c', rvv, by rw [Array.toArray_toList]; exact hS⟩), rfl, Hands.lst hr D.rk q _ (I.hok.fresh (Nat.le_refl _))⟩
    · cases e
  · cases e
theorem mc_list (hc : X.calm = true) : MC X adr (.type "list") wList := MC.mk fun ws h w e => by
  unfold wList at e
  split at e
  · rename_i x
    split at e
    · rename_i ys ey
      cases e
      refine ⟨_, call_list_of, fun T H vs Q hr rs q => ?_⟩
      obtain ⟨v, rfl, rp⟩ := reps1 rs
      obtain ⟨a, vs, rfl, z, r⟩ := seq_at hr rp ey
      exact ⟨a, vs, rfl, z.elim .inr .inl, Hands.lst hr r q⟩
    · exact (mc_listD (X := X) (adr := adr) hc).case (ws := [x]) e
  · cases e
def wTuple : FA := fun ws h => match ws with
  | [x] => match x with
    | .tup ys => some (.tup ys)
    | x => match lstOf x h with
      | some ys => some (.tup ys)
      | none => none
  | _ => none
theorem mc_tuple : MC X adr (.type "tuple") wTuple := MC.mk fun ws h w e => by
  unfold wTuple at e
  split at e
  · split at e
    · cases e
      refine ⟨_, call_tuple_of, fun T H vs Q hr rs q => ?_⟩
      obtain ⟨v, rfl, rp⟩ := reps1 rs
      have rp0 := rp
      obtain ⟨a, vs, rfl, z, r⟩ := tup_at rp
      exact ⟨a, vs, rfl, .inr ⟨.inl (.inl z), Hands.same hr rp0 q⟩⟩
    · split at e
      · rename_i ys ey
        cases e
        refine ⟨_, call_tuple_of, fun T H vs Q hr rs q => ?_⟩
        obtain ⟨v, rfl, rp⟩ := reps1 rs
        obtain ⟨a, vs, rfl, z, r⟩ := lst_at hr rp ey
        exact ⟨a, vs, rfl, .inl ⟨.inl (.inl z), Hands.tup hr r q⟩⟩
      · cases e
  · cases e
def blsOf : List W -> Option (List Bool)
  | [] => some []
  | x :: r => match x with
    | .bl b => match blsOf r with
      | some bs => some (b :: bs)
      | none => none
    | _ => none
theorem bls_at {T : Tie} {H : Hp} : ∀ {ws : List W} {bs : List Bool} {vs : List V}, blsOf ws = some bs -> Reps G T H ws vs -> vs = bs.map V.bl
  | [], bs, vs, e, r => by cases e; unfold Reps at r; rw [r]; rfl
  | x :: ws, bs, vs, e, r => by
    unfold blsOf at e
    split at e
    · split at e
      · rename_i b _ cs ec
        cases e
        unfold Reps at r
        obtain ⟨v, s, rfl, h, r⟩ := r
        rw [rep_bl h, bls_at ec r]
        rfl
      · cases e
    · cases e
def allB : List Bool -> Bool
  | [] => true
  | b :: r => match b with
    | true => allB r
    | false => false
theorem allB_is : ∀ bs, allB bs = bs.all id
  | [] => rfl
  | false :: r => rfl
  | true :: r => by rw [allB, List.all_cons, allB_is r]; rfl
def wAll : FA := fun ws h => match ws with
  | [x] => match lstOf x h with
    | some ys => match blsOf ys with
      | some bs => some (.bl (allB bs))
      | none => none
    | none => none
  | _ => none
theorem mc_all (hc : X.calm = true) : MC X adr (.builtin "all") wAll := MC.mk fun ws h w e => by
  unfold wAll at e
  split at e
  · split at e
    · rename_i ys ey
      split at e
      · rename_i bs eb
        cases e
        refine ⟨_, cr_all hc, fun T H vs Q hr rs q => ?_⟩
        obtain ⟨v, rfl, rp⟩ := reps1 rs
        obtain ⟨a, vs, rfl, z, r⟩ := lst_at hr rp ey
        obtain rfl := bls_at eb r
        refine ⟨a, bs, rfl, .inl (.inl z), ?_⟩
        rw [<- allB_is]
        exact Hands.bl hr q
      · cases e
    · cases e
  · cases e
end Mi
end
section
namespace Mi
open PySem PySem.Spec PyProof.Rows L2
variable {G : Kt} {X : Cx} {adr : Ad} {Y : WX}
inductive Ty where
  | b (k : Nat)
  | o (c : Nat)
def tyVal (adr : Nat -> Addr) : Ty -> Value
  | .b k => .type (tyName k)
  | .o c => .ref (adr c)
def tyKey (w : W) (h : MH) : Option Ty := match w with
  | .int _ => some (.b 0)
  | .str _ => some (.b 1)
  | .bl _ => some (.b 2)
  | .tup _ => some (.b 3)
  | .lst _ => some (.b 4)
  | .dct _ _ => some (.b 5)
  | .non => some (.b 6)
  | .scr _ => some (.b 4)
  | .kt0 => some (.b 3)
  | .ins c _ _ => some (.o c)
  | .ref n => match h.get n with
    | some (.lst _) => some (.b 4)
    | some (.dct _ _) => some (.b 5)
    | some (.ins c _ _) => some (.o c)
    | none => none
  | _ => none
structure IsF (K : PySem.W.Frag) (adr : Nat -> Addr) (n : Nat) (sub : Nat -> Nat -> Bool) : Prop where
  oo : ∀ c d, c < n -> d < n -> PySem.W.kitOne K (.ref (adr c)) (.ref (adr d)) = some (sub c d)
  ob : ∀ c k, c < n -> k < 6 -> PySem.W.kitOne K (.ref (adr c)) (.type (tyName k)) = some false
  bo : ∀ k d, k < 7 -> d < n -> PySem.W.kitOne K (.type (tyName k)) (.ref (adr d)) = some false
  cls : ∀ c, c < n -> Cls K (adr c) /\ PySem.W.findIn K (.ref (adr c)) "__class__" = some (some (.builtin "object.__class__")) /\ PySem.W.mroIn K (adr c) (.type "object") = some true
  spc : PySem.W.specialIn K (.builtin "object.__class__") "__get__" = some (some (.builtin "getset_descriptor.__get__"))
  tks : PySem.W.takesIn K (.builtin "object.__class__") = some true
def isBB (a b : Nat) : Bool := Nat.beq a b || (Nat.beq a 2 && Nat.beq b 0)
theorem kit_bb {K : PySem.W.Frag} : ∀ a b, a < 7 -> b < 6 -> PySem.W.kitOne K (.type (tyName a)) (.type (tyName b)) = some (isBB a b) := by
  intro a b ha hb
  have e : ∀ a, a < 7 -> ∀ b, b < 6 -> _root_.L2.kitB (tyName a) (tyName b) = some (isBB a b) := by decide +kernel
  exact kit_ty (e a ha b hb)
def isOne (n : Nat) (sub : Nat -> Nat -> Bool) (t : Ty) (c : W) : Option Bool := match c with
  | .ty k => match Nat.blt k 6 with
    | true => match t with
      | .b a => match Nat.blt a 7 with
        | true => some (isBB a k)
        | false => none
      | .o c => match Nat.blt c n with
        | true => some false
        | false => none
    | false => none
  | .cl d => match Nat.blt d n with
    | true => match t with
      | .b a => match Nat.blt a 7 with
        | true => some false
        | false => none
      | .o c => match Nat.blt c n with
        | true => some (sub c d)
        | false => none
    | false => none
  | _ => none
def isAny (n : Nat) (sub : Nat -> Nat -> Bool) (t : Ty) : List W -> Option Bool
  | [] => some false
  | c :: r => match isOne n sub t c with
    | some true => some true
    | some false => isAny n sub t r
    | none => none
def wIsi (n : Nat) (sub : Nat -> Nat -> Bool) : FA := fun ws h => match ws with
  | [x, c] => match tyKey x h with
    | some t => match c with
      | .tup (c :: cs) => optBl (isAny n sub t (c :: cs))
      | .ty k => optBl (isOne n sub t (.ty k))
      | .cl d => optBl (isOne n sub t (.cl d))
      | _ => none
    | none => none
  | _ => none
section
variable {n : Nat} {sub : Nat -> Nat -> Bool}
theorem blt {a b : Nat} (h : Nat.blt a b = true) : a < b := Nat.le_of_ble_eq_true h
def clsVal (adr : Nat -> Addr) : W -> Option Value
  | .ty k => some (.type (tyName k))
  | .cl d => some (.ref (adr d))
  | _ => none
theorem isOne_ok {K : PySem.W.Frag} (F : IsF K adr n sub) {t : Ty} {c : W} {b : Bool} (e : isOne n sub t c = some b) : ∃ u, clsVal adr c = some u /\ PySem.W.kitOne K (tyVal adr t) u = some b := by
  unfold isOne at e
  split at e
  · split at e
    · rename_i hk
      split at e
      · split at e
        · rename_i ha
          cases e
          exact ⟨_, rfl, kit_bb _ _ (blt ha) (blt hk)⟩
        · cases e
      · split at e
        · rename_i ha
          cases e
          exact ⟨_, rfl, F.ob _ _ (blt ha) (blt hk)⟩
        · cases e
    · cases e
  · split at e
    · rename_i hk
      split at e
      · split at e
        · rename_i ha
          cases e
          exact ⟨_, rfl, F.bo _ _ (blt ha) (blt hk)⟩
        · cases e
      · split at e
        · rename_i ha
          cases e
          exact ⟨_, rfl, F.oo _ _ (blt ha) (blt hk)⟩
        · cases e
    · cases e
  · cases e
theorem isAny_ok {K : PySem.W.Frag} (F : IsF K adr n sub) {t : Ty} {T : Tie} {H : Hp} : ∀ {cs : List W} {vs : List V} {us : List Value} {b : Bool}, isAny n sub t cs = some b -> Reps (kt X adr) T H cs vs -> Vals vs us -> PySem.W.kitAny K (tyVal adr t) us = some b
  | [], vs, us, b, e, r, rv => by
    cases e
    unfold Reps at r
    subst r
    cases rv
    rfl
  | c :: cs, vs, us, b, e, r, rv => by
    unfold Reps at r
    obtain ⟨v, s, rfl, h, r⟩ := r
    cases rv with
    | @cons _ u0 _ us q1 q2 =>
    unfold isAny at e
    have key : ∀ {k : Bool}, isOne n sub t c = some k -> PySem.W.kitOne K (tyVal adr t) u0 = some k := fun {k} e1 => by
      obtain ⟨u, eu, ku⟩ := isOne_ok F e1
      have : u0 = u := by
        unfold clsVal at eu
        split at eu
        · cases eu; unfold Rep at h; subst h; exact q1
        · cases eu; unfold Rep at h; subst h; exact q1
        · cases eu
      rw [this]
      exact ku
    unfold PySem.W.kitAny
    split at e
    · rename_i e1
      cases e
      rw [key e1]
    · rename_i e1
      rw [key e1]
      exact isAny_ok F e r q2
    · cases e
theorem kit_W {K0 : PySem.W.Frag} {pins : List (Addr × Obj)} {σ : Sl} {H : Hp} {s : Shared} (eK : X.K = K0) (F : IsF K0 adr n sub) (I : Inv X pins σ H s) {T : Tie} {h : MH} {w : W} {v : V} {u : Value} (hr : Hrel (kt X adr) T h H) (rp : Rep (kt X adr) T H w v) (ru : RelV v u) {t : Ty} (e : tyKey w h = some t)
    (hc : ∀ c, t = .o c -> c < n) : ∃ P : Heap -> Prop, PySem.W.KitX X.K u (tyVal adr t) P /\ P s.heap /\ u ≠ .builtin "__main__.__loader__#opaque" := by
  subst eK
  have own : ∀ {a dx : Addr} {c : Nat} {fs : List (Str × V)}, H a = some (.ins (adr c) dx fs) -> c < n -> ∃ P : Heap -> Prop, PySem.W.KitX X.K (.ref a) (.ref (adr c)) P /\ P s.heap /\ Value.ref a ≠ .builtin "__main__.__loader__#opaque" := fun {a dx c fs} ea lt => by
    obtain ⟨mA, O, _⟩ := ins_get I.hok ea
    obtain ⟨od, J, _⟩ := O.look
    obtain ⟨cl, ha, hm⟩ := F.cls c lt
    exact ⟨_, PySem.W.kitx_own (cl.get _) cl.hd ha F.spc F.tks hm, J, fun z => nomatch z⟩
  unfold tyKey at e
  split at e
  · cases e; rw [rep_int rp] at ru; obtain ⟨t, rfl⟩ := ru; exact ⟨_, PySem.W.kitx_int, True.intro, fun z => nomatch z⟩
  · cases e; rw [rep_str rp] at ru; obtain ⟨t, rfl⟩ := ru; exact ⟨_, PySem.W.kitx_str, True.intro, fun z => nomatch z⟩
  · cases e; rw [rep_bl rp] at ru; cases ru; exact ⟨_, PySem.W.kitx_bool, True.intro, fun z => nomatch z⟩
  · cases e
    obtain ⟨a, vs, rfl, q, r⟩ := tup_at rp
    obtain rfl : u = .ref a := ru
    obtain ⟨_, its, rv, o, h1, h2, _⟩ := I.hok _ _ q
    exact ⟨_, PySem.W.kitx_tuple, ⟨o, h1, h2⟩, fun z => nomatch z⟩
  · cases e
    obtain ⟨a, vs, rfl, q, r⟩ := lst_at hr rp rfl
    obtain rfl : u = .ref a := ru
    obtain ⟨_, its, n, rv, h1⟩ := I.hok _ _ q
    exact ⟨_, PySem.W.kitx_list, ⟨_, h1, rfl⟩, fun z => nomatch z⟩
  · cases e
    obtain ⟨a, o, kv, vv, rfl, D⟩ := dct_at hr rp rfl
    obtain rfl : u = .ref a := ru
    exact ⟨_, PySem.W.kitx_dict, ⟨o, exact_at I.hok D.at_, D.d.1.1⟩, fun z => nomatch z⟩
  · cases e; rw [rep_non rp] at ru; cases ru; exact ⟨_, PySem.W.kitx_none, True.intro, fun z => nomatch z⟩
  · cases e
    obtain ⟨a, rfl, q⟩ := scr_at rp
    obtain rfl : u = .ref a := ru
    obtain ⟨its, rv, o, h1, h2, _⟩ := sqL_list I.hok I.kIn q
    exact ⟨_, PySem.W.kitx_list, ⟨o, h1, h2⟩, fun z => nomatch z⟩
  · cases e
    unfold Rep at rp
    obtain ⟨a, rfl, o, n, k1, k2, k3⟩ := rp
    obtain rfl : u = .ref a := ru
    exact ⟨_, PySem.W.kitx_tuple, ⟨o, I.kIn _ _ k1, k2⟩, fun z => nomatch z⟩
  · cases e
    unfold Rep at rp
    obtain ⟨a, dx, vv, rfl, f, f2, q, _⟩ := rp
    obtain rfl : u = .ref a := ru
    exact own q (hc _ rfl)
  · split at e
    · rename_i n' _ e2
      cases e
      obtain ⟨a, vs, rfl, q, r⟩ := lst_at hr rp (by unfold lstOf; dsimp only; rw [e2])
      obtain rfl : u = .ref a := ru
      obtain ⟨_, its, n, rv, h1⟩ := I.hok _ _ q
      exact ⟨_, PySem.W.kitx_list, ⟨_, h1, rfl⟩, fun z => nomatch z⟩
    · rename_i n' _ _ e2
      cases e
      obtain ⟨a, o, kv, vv, rfl, D⟩ := dct_at hr rp (by unfold dctOf; dsimp only; rw [e2])
      obtain rfl : u = .ref a := ru
      exact ⟨_, PySem.W.kitx_dict, ⟨o, exact_at I.hok D.at_, D.d.1.1⟩, fun z => nomatch z⟩
    · rename_i n' c _ _ e2
      cases e
      obtain ⟨a, ea, dx, vv, f, q, _⟩ := hr.obj _ _ e2
      unfold Rep at rp
      obtain rfl := rp.2 a ea
      obtain rfl : u = .ref a := ru
      exact own q (hc _ rfl)
    · cases e
  · cases e
theorem isOne_lt {t : Ty} {c : W} {b : Bool} (e : isOne n sub t c = some b) : ∀ d, t = .o d -> d < n := fun d z => by
  subst z
  unfold isOne at e
  split at e
  · split at e
    · split at e
      · rename_i z; cases z
      · rename_i z
        cases z
        split at e
        · rename_i ha; exact blt ha
        · cases e
    · cases e
  · split at e
    · split at e
      · rename_i z; cases z
      · rename_i z
        cases z
        split at e
        · rename_i ha; exact blt ha
        · cases e
    · cases e
  · cases e
theorem mc_isi (F : IsF X.K adr n sub) : MC X adr (.builtin "isinstance") (wIsi n sub) := by
  intro pins s σ H vs us Q I rv ⟨T, h, ws, w, hr, rs, e, q⟩
  unfold wIsi at e
  split at e
  · split at e
    · rename_i t et
      obtain ⟨v1, v2, rfl, r1, r2⟩ := reps2 rs
      obtain ⟨u1, u2, rfl, ru1, ru2⟩ := Vals.two rv
      have one : ∀ c b, (∀ T H v, Rep (kt X adr) T H c v -> ∀ u, RelV v u -> clsVal adr c = some u) -> Rep (kt X adr) T H c v2 -> isOne n sub t c = some b -> w = .bl b -> wpAny (model X.prog X.w) X.A (call (.builtin "isinstance") [u1, u2]) (EP X pins σ Q) X.xe s := fun c b cv rc e1 ew => by
        subst ew
        obtain ⟨P, Z, p, hx⟩ := kit_W rfl F I hr r1 ru1 et (isOne_lt e1)
        obtain ⟨u, eu, ku⟩ := isOne_ok F e1
        rw [cv T H v2 rc u2 ru2] at eu
        cases eu
        exact PySem.W.kia_one Z I.kIn p ku hx fun tk => ⟨.bl b, H, I.tok tk, rfl, Hands.bl hr q⟩
      split at e
      · rename_i c cs
        obtain ⟨b, e', rfl⟩ := optBl_is e
        obtain ⟨a, ys, rfl, qa, ry⟩ := tup_at r2
        obtain rfl : u2 = .ref a := ru2
        obtain ⟨_, its, rvt, o, h1, h2, nn, h3⟩ := I.hok _ _ qa
        have lt : ∀ d, t = .o d -> d < n := by
          unfold isAny at e'
          split at e'
          · rename_i e1; exact isOne_lt e1
          · rename_i e1; exact isOne_lt e1
          · cases e'
        obtain ⟨P, Z, p, hx⟩ := kit_W rfl F I hr r1 ru1 et lt
        have ka := isAny_ok F e' ry rvt
        obtain ⟨oc, od, dt, sl⟩ := o
        simp only at h2 h3
        subst h2 h3
        exact PySem.W.kia_tup Z I.kIn p h1 ka hx fun tk => ⟨.bl b, H, I.tok tk, rfl, Hands.bl hr q⟩
      · obtain ⟨b, e', ew⟩ := optBl_is e
        exact one _ b (fun T H v r u ru => by unfold Rep at r; subst r; cases ru; rfl) r2 e' ew
      · obtain ⟨b, e', ew⟩ := optBl_is e
        exact one _ b (fun T H v r u ru => by unfold Rep at r; subst r; cases ru; rfl) r2 e' ew
      · cases e
    · cases e
  · cases e
end
end Mi
end
section
namespace Mi
open PySem PySem.Spec PyProof.Rows L2
variable {G : Kt} {X : Cx} {adr : Ad} {Y : WX}
def dputK (k : W) : List W -> List W
  | [] => [k]
  | x :: r => match kEq x k with
    | true => x :: r
    | false => x :: dputK k r
def dputV (k w : W) : List W -> List W -> List W
  | [], _ => [w]
  | x :: r, vs => match vs with
    | v :: vs => match kEq x k with
      | true => w :: vs
      | false => v :: dputV k w r vs
    | [] => []
section
variable {K : Type} [DecidableEq K]
def putL (κ : K) : List K -> List K
  | [] => [κ]
  | x :: r => if x = κ then x :: r else x :: putL κ r
def putU {α : Type} (κ : K) (u : α) : List K -> List α -> List α
  | [], _ => [u]
  | x :: r, vs => match vs with
    | v :: vs => if x = κ then u :: vs else v :: putU κ u r vs
    | [] => []
theorem mem_putL {κ y : K} : ∀ {l : List K}, y ∈ putL κ l -> y = κ \/ y ∈ l
  | [], h => by simp [putL] at h; exact .inl h
  | x :: r, h => by
    unfold putL at h
    split at h
    · exact .inr h
    · rcases List.mem_cons.mp h with z | z
      · exact .inr (by simp [z])
      · exact (mem_putL z).imp id fun z => List.mem_cons_of_mem _ z
theorem nodup_putL {κ : K} : ∀ {l : List K}, l.Nodup -> (putL κ l).Nodup
  | [], _ => by simp [putL]
  | x :: r, h => by
    unfold putL
    split
    · exact h
    · rename_i ne
      rw [List.nodup_cons] at h ⊢
      exact ⟨fun z => (mem_putL z).elim (fun e => ne e) h.1, nodup_putL h.2⟩
theorem putU_len {α : Type} {κ : K} {u : α} : ∀ {l : List K} {us : List α}, l.length = us.length -> (putL κ l).length = (putU κ u l us).length
  | [], us, _ => rfl
  | x :: r, [], h => by cases h
  | x :: r, v :: us, h => by
    unfold putL putU
    by_cases e : x = κ
    · simp only [if_pos e]; exact h
    · simp only [if_neg e, List.length_cons]
      rw [putU_len (by simpa using h)]
theorem map_same {κ : K} {u : Value} : ∀ {r : List (K × Value)}, κ ∉ r.map (·.1) -> r.map (fun kv => if kv.1 = κ then (kv.1, u) else kv) = r
  | [], _ => rfl
  | p :: r, h => by
    simp only [List.map_cons, List.mem_cons, not_or] at h
    rw [List.map_cons, map_same h.2, if_neg fun e => h.1 e.symm]
theorem stored_cons {κ a : K} {u x : Value} {r : List (K × Value)} (nd : ((a, x) :: r).map (·.1) |>.Nodup) : stored ((a, x) :: r) κ u = if a = κ then (a, u) :: r else (a, x) :: stored r κ u := by
  rw [List.map_cons, List.nodup_cons] at nd
  unfold stored
  by_cases e : a = κ
  · have h : κ ∉ r.map (·.1) := fun m => nd.1 (e ▸ m)
    rw [if_pos e, if_pos (by simp [e]), List.map_cons, map_same h, if_pos e]
  · rw [if_neg e]
    have e2 : List.any ((a, x) :: r) (fun kv => decide (kv.1 = κ)) = List.any r fun kv => decide (kv.1 = κ) := by simp [e]
    rw [e2]
    by_cases c : (List.any r fun kv => decide (kv.1 = κ)) = true
    · rw [if_pos c, if_pos c, List.map_cons, if_neg e]
    · rw [if_neg c, if_neg c]; rfl
theorem stored_zip {κ : K} {u : Value} : ∀ {l : List K} {us : List Value}, l.Nodup -> l.length = us.length -> stored (l.zip us) κ u = (putL κ l).zip (putU κ u l us)
  | [], us, _, h => by
    obtain rfl : us = [] := List.length_eq_zero_iff.mp h.symm
    rfl
  | a :: l, [], _, h => by cases h
  | a :: l, x :: us, nd, h => by
    have h : l.length = us.length := by simpa using h
    rw [List.zip_cons_cons, stored_cons (by rw [<- List.zip_cons_cons, List.map_fst_zip (by simp; omega)]; exact nd)]
    unfold putL putU
    by_cases e : a = κ
    · simp only [if_pos e]; rfl
    · simp only [if_neg e]
      rw [stored_zip (List.nodup_cons.mp nd).2 h, List.zip_cons_cons]
def putB (κ : K) (b : Addr) : List K -> List Addr -> List Addr := putUk
where putUk : List K -> List Addr -> List Addr
  | [], _ => [b]
  | x :: r, vs => match vs with
    | v :: vs => if x = κ then v :: vs else v :: putUk r vs
    | [] => []
theorem map_putAt_same {κ : K} {u : Value} : ∀ {r : List (K × Addr × Value)}, κ ∉ r.map (·.1) -> r.map (putAt κ u) = r := fun h => map_putAt_of_not_mem _ _ _ h
theorem storedH_cons {κ a : K} {b c : Addr} {u x : Value} {r : List (K × Addr × Value)} (nd : ((a, c, x) :: r).map (·.1) |>.Nodup) : storedH ((a, c, x) :: r) κ b u = if a = κ then (a, c, u) :: r else (a, c, x) :: storedH r κ b u := by
  rw [List.map_cons, List.nodup_cons] at nd
  unfold storedH
  rw [atKey_cons]
  by_cases e : a = κ
  · have h : κ ∉ r.map (·.1) := fun m => nd.1 (e ▸ m)
    rw [if_pos e, if_pos e]
    simp only [Option.isSome_some, if_true, List.map_cons]
    rw [map_putAt_same h]
    simp [putAt, e]
  · rw [if_neg e, if_neg e]
    by_cases c : (atKey r κ).isSome = true
    · rw [if_pos c, if_pos c, List.map_cons]
      simp [putAt, e]
    · rw [if_neg c, if_neg c]; rfl
theorem putB_len {κ : K} {b : Addr} : ∀ {l : List K} {us : List Addr}, l.length = us.length -> (putL κ l).length = (putB κ b l us).length
  | [], us, _ => rfl
  | x :: r, [], h => by cases h
  | x :: r, v :: us, h => by
    unfold putL putB putB.putUk
    by_cases e : x = κ
    · simp only [if_pos e]; exact h
    · simp only [if_neg e, List.length_cons]
      have := putB_len (κ := κ) (b := b) (l := r) (us := us) (by simpa using h)
      rw [this]; rfl
theorem storedH_zip {κ : K} {b : Addr} {u : Value} : ∀ {l : List K} {bs : List Addr} {us : List Value}, l.Nodup -> l.length = us.length -> bs.length = us.length -> storedH (l.zip (bs.zip us)) κ b u = (putL κ l).zip ((putB κ b l bs).zip (putU κ u l us))
  | [], bs, us, _, h, _ => by
    obtain rfl : us = [] := List.length_eq_zero_iff.mp h.symm
    rfl
  | a :: l, bs, [], _, h, _ => by cases h
  | a :: l, [], x :: us, _, h, hb => by cases hb
  | a :: l, c :: bs, x :: us, nd, h, hb => by
    have h : l.length = us.length := by simpa using h
    have hb : bs.length = us.length := by simpa using hb
    rw [List.zip_cons_cons, List.zip_cons_cons, storedH_cons (by rw [<- List.zip_cons_cons, <- List.zip_cons_cons, List.map_fst_zip (by simp; omega)]; exact nd)]
    have ih := storedH_zip (κ := κ) (b := b) (u := u) (List.nodup_cons.mp nd).2 h hb
    unfold putL putU putB putB.putUk
    by_cases e : a = κ
    · simp only [if_pos e]; rfl
    · simp only [if_neg e]
      rw [ih]; rfl
end
theorem putK_S {k : W} {κ : Key} (hk : kS k = some κ) : ∀ {ks : List W} {kl : List Key}, ks.map kS = kl.map some -> (dputK k ks).map kS = (putL κ kl).map some
  | [], kl, e => by
    obtain rfl := map_nil_some e
    simp [dputK, putL, hk]
  | x :: ks, kl, e => by
    obtain ⟨a, r, rfl, e1, e2⟩ := map_cons_some e
    unfold dputK putL
    rw [kEq_S e1 hk]
    by_cases z : a = κ
    · rw [decide_eq_true z, if_pos z]; exact e
    · rw [decide_eq_false z, if_neg z]
      simp [e1, putK_S hk e2]
theorem putK_T {k : W} {κ : NestedKey} (hk : kT k = some κ) : ∀ {ks : List W} {kl : List NestedKey}, ks.map kT = kl.map some -> (dputK k ks).map kT = (putL κ kl).map some
  | [], kl, e => by
    obtain rfl := map_nil_some e
    simp [dputK, putL, hk]
  | x :: ks, kl, e => by
    obtain ⟨a, r, rfl, e1, e2⟩ := map_cons_some e
    unfold dputK putL
    rw [kEq_T e1 hk]
    by_cases z : a = κ
    · rw [decide_eq_true z, if_pos z]; exact e
    · rw [decide_eq_false z, if_neg z]
      simp [e1, putK_T hk e2]
theorem dputK_len (k : W) : ∀ ks, (dputK k ks).length <= ks.length + 1
  | [] => by simp [dputK]
  | x :: r => by
    unfold dputK
    cases kEq x k with
    | true => simp
    | false => have := dputK_len k r; simp; omega
theorem putV_S {T : Tie} {H : Hp} {k w : W} {κ : Key} {vw : V} {u : Value} (hk : kS k = some κ) (rw' : Rep G T H w vw) (ru : RelV vw u) : ∀ {ks vs : List W} {kl : List Key} {us : List Value} {vv : List V}, ks.map kS = kl.map some -> Reps G T H vs vv -> Vals vv us -> ks.length = vs.length ->
    ∃ vv', Reps G T H (dputV k w ks vs) vv' /\ Vals vv' (putU κ u kl us)
  | [], vs, kl, us, vv, e, rs, rv, ln => by
    obtain rfl := map_nil_some e
    exact ⟨[vw], .cons rw' .nil, .cons ru .nil⟩
  | x :: ks, [], kl, us, vv, e, rs, rv, ln => by cases ln
  | x :: ks, v :: vs, kl, us, vv, e, rs, rv, ln => by
    obtain ⟨a, r, rfl, e1, e2⟩ := map_cons_some e
    unfold Reps at rs
    obtain ⟨v0, s, rfl, p1, p2⟩ := rs
    cases rv with
    | cons q1 q2 =>
      unfold dputV putU
      dsimp only
      rw [kEq_S e1 hk]
      by_cases z : a = κ
      · rw [decide_eq_true z, if_pos z]
        exact ⟨vw :: s, .cons rw' p2, .cons ru q2⟩
      · rw [decide_eq_false z, if_neg z]
        obtain ⟨vv', a1, a2⟩ := putV_S hk rw' ru e2 p2 q2 (by simpa using ln)
        exact ⟨v0 :: vv', .cons p1 a1, .cons q1 a2⟩
theorem putV_T {T : Tie} {H : Hp} {k w : W} {κ : NestedKey} {vw : V} {u : Value} (hk : kT k = some κ) (rw' : Rep G T H w vw) (ru : RelV vw u) : ∀ {ks vs : List W} {kl : List NestedKey} {us : List Value} {vv : List V}, ks.map kT = kl.map some -> Reps G T H vs vv -> Vals vv us -> ks.length = vs.length ->
    ∃ vv', Reps G T H (dputV k w ks vs) vv' /\ Vals vv' (putU κ u kl us)
  | [], vs, kl, us, vv, e, rs, rv, ln => by
    obtain rfl := map_nil_some e
    exact ⟨[vw], .cons rw' .nil, .cons ru .nil⟩
  | x :: ks, [], kl, us, vv, e, rs, rv, ln => by cases ln
  | x :: ks, v :: vs, kl, us, vv, e, rs, rv, ln => by
    obtain ⟨a, r, rfl, e1, e2⟩ := map_cons_some e
    unfold Reps at rs
    obtain ⟨v0, s, rfl, p1, p2⟩ := rs
    cases rv with
    | cons q1 q2 =>
      unfold dputV putU
      dsimp only
      rw [kEq_T e1 hk]
      by_cases z : a = κ
      · rw [decide_eq_true z, if_pos z]
        exact ⟨vw :: s, .cons rw' p2, .cons ru q2⟩
      · rw [decide_eq_false z, if_neg z]
        obtain ⟨vv', a1, a2⟩ := putV_T hk rw' ru e2 p2 q2 (by simpa using ln)
        exact ⟨v0 :: vv', .cons p1 a1, .cons q1 a2⟩
theorem reps_kV {T : Tie} {H : Hp} : ∀ {ks : List W} {kl : List Key}, ks.map kS = kl.map some -> Reps G T H ks (kl.map kV)
  | [], kl, e => by obtain rfl := map_nil_some e; exact .nil
  | x :: ks, kl, e => by
    obtain ⟨a, r, rfl, e1, e2⟩ := map_cons_some e
    refine .cons ?_ (reps_kV e2)
    cases x with
    | int i => cases e1; unfold Rep; rfl
    | str i => cases e1; unfold Rep; rfl
    | _ => cases e1
theorem reps_putB {T : Tie} {H : Hp} {k : W} {κ : NestedKey} {b : Addr} (hk : kT k = some κ) (rk : Rep G T H k (.ref b)) : ∀ {ks : List W} {kl : List NestedKey} {bs : List Addr}, ks.map kT = kl.map some -> Reps G T H ks (bs.map V.ref) -> Reps G T H (dputK k ks) ((putB κ b kl bs).map V.ref)
  | [], kl, bs, e, r => by
    obtain rfl := map_nil_some e
    exact .cons rk .nil
  | x :: ks, kl, bs, e, r => by
    obtain ⟨a, q, rfl, e1, e2⟩ := map_cons_some e
    cases bs with
    | nil => unfold Reps at r; obtain ⟨_, _, z, _⟩ := r; cases z
    | cons c bs =>
      have r0 := r
      unfold Reps at r
      obtain ⟨v, s, z, p1, p2⟩ := r
      rw [List.map_cons] at z
      cases z
      unfold dputK putB putB.putUk
      dsimp only
      rw [kEq_T e1 hk]
      by_cases z : a = κ
      · rw [decide_eq_true z, if_pos z]
        exact r0
      · rw [decide_eq_false z, if_neg z]
        exact .cons p1 (reps_putB hk rk e2 p2)
theorem back_S {P : Program} {wo : World} {h : Heap} {d : Addr} {ks : List W} {kl : List Key} {us : List Value} {vv : List V} (dd : h.DictOf (mixKind P wo) d (kl.zip us)) (hk : ks.map kS = kl.map some) (rv : Vals vv us) (ln : kl.length = us.length) :
    ∃ o, h.get? d = some o /\ DictO o (kl.map kV) vv (ks.map (hashW wo)) := by
  obtain ⟨o, es, ep, ho, hx, hd, hkey, hp, nd⟩ := dd
  refine ⟨o, ho, hx, es, ep, hd, ?_⟩
  have key : ∀ e ∈ es.toList, ∃ k, keyIs k e.key = true /\ e.hash = keyH wo k := fun e he => hkey e (by simpa using he)
  clear hkey hd hx ho nd
  generalize es.toList = el at hp key
  induction kl generalizing el us vv ks with
  | nil =>
    cases us with
    | cons _ _ => cases ln
    | nil =>
      cases rv
      cases hp
      cases ks with
      | nil => exact .nil
      | cons x r => cases hk
  | cons a kl ih =>
    cases us with
    | nil => cases ln
    | cons u us =>
    cases ks with
    | nil => cases hk
    | cons x ks =>
    obtain ⟨a', r', e0, e1, e2⟩ := map_cons_some hk
    cases e0
    cases rv with
    | cons q1 q2 =>
    rw [List.zip_cons_cons] at hp
    cases hp with
    | @cons e _ es' _ i1 i2 i3 =>
    have i1' : keyIs a e.key = true := i1
    refine .cons (L2.keyIs_rel i1') (by rw [i2]; exact q1) ?_ (ih e2 q2 (by simpa using ln) es' i3 fun e he => key e (List.mem_cons_of_mem _ he))
    obtain ⟨k, k1, k2⟩ := key e List.mem_cons_self
    have : k = a := (mixKind P wo).inj e.key k a k1 i1'
    subst this
    rw [k2, hash_S e1]
theorem back_T {P : Program} {wo : World} {h : Heap} {d : Addr} {ks : List W} {kl : List NestedKey} {bs : List Addr} {us : List Value} {vv : List V} (dd : h.DictOfH (nestedKind P wo) d (kl.zip (bs.zip us))) (hk : ks.map kT = kl.map some) (rv : Vals vv us) (ln : kl.length = us.length) (lb : bs.length = us.length) :
    ∃ o, h.get? d = some o /\ DictO o (bs.map V.ref) vv (ks.map (hashW wo)) := by
  obtain ⟨o, es, ep, ho, hx, hd, he, his, nd⟩ := dd
  refine ⟨o, ho, hx, es, ep, hd, ?_⟩
  rw [he]
  clear he his hd hx ho nd
  induction kl generalizing bs us vv ks with
  | nil =>
    cases us with
    | cons _ _ => cases ln
    | nil =>
      cases rv
      cases bs with
      | cons _ _ => cases lb
      | nil =>
      cases ks with
      | nil => exact .nil
      | cons x r => cases hk
  | cons a kl ih =>
    cases us with
    | nil => cases ln
    | cons u us =>
    cases bs with
    | nil => cases lb
    | cons b bs =>
    cases ks with
    | nil => cases hk
    | cons x ks =>
    obtain ⟨a', r', e0, e1, e2⟩ := map_cons_some hk
    cases e0
    cases rv with
    | cons q1 q2 =>
    exact .cons rfl q1 (hash_T e1).symm (ih e2 q2 (by simpa using ln) (by simpa using lb))
theorem exact_ok {P : Program} {wo : World} {H : Hp} {h : Heap} {a : Addr} {o : Obj} (e : h.get? a = some o) : ObjOk P wo H h a (exact o a) := ⟨e, ⟨o, e⟩, fun h1 h2 p k => k _ p⟩
structure NewD (G : Kt) (T : Tie) (H : Hp) (ks vs : List W) (o : Obj) (kv vv : List V) : Prop where
  ok : KeysOk ks
  d : DictO o kv vv (ks.map (hashW G.w))
  rk : Reps G T H ks kv
  rv : Reps G T H vs vv
theorem put_W {A : Around} (hu : A.units + 8 < cLine) {pins : List (Addr × Obj)} {σ : Sl} {H : Hp} {s : Shared} {E : Value -> Shared -> Prop} {Q : Unit -> Shared -> Prop} {T : Tie} {ks vs : List W} {a : Addr} {o : Obj} {kv vv : List V} {k w : W} {vk vw : V} {uk uw : Value} (I : Inv X pins σ H s) (D : DAt (kt X adr) T H ks vs a o kv vv)
    (fit : keyFit k ks = true) (lim : Nat.blt ks.length 16777216 = true) (rk : Rep (kt X adr) T H k vk) (ruk : RelV vk uk) (rw' : Rep (kt X adr) T H w vw) (ruw : RelV vw uw) (act : Sem Unit)
    (act1 : ∀ (κ : Key) (kl : List Key) (us : List Value), keyIs κ uk = true -> s.heap.DictOf (mixKind X.prog X.w) a (kl.zip us) -> (kl.zip us).length <= sizeLine -> (∀ h', h'.DictOf (mixKind X.prog X.w) a (stored (kl.zip us) κ uw) -> Heap.SameBut a s.heap h' -> Q () { s with heap := h', toks := s.toks + 1 }) -> wpAny (model X.prog X.w) A act Q E s)
    (act2 : ∀ (κ : NestedKey) (xs : List (NestedKey × Addr × Value)) (b : Addr), uk = .ref b -> (nestedKind X.prog X.w).is s.heap κ b -> s.heap.DictOfH (nestedKind X.prog X.w) a xs -> xs.length <= sizeLine -> (∀ h', h'.DictOfH (nestedKind X.prog X.w) a (storedH xs κ b uw) -> Heap.SameBut a s.heap h' -> Q () { s with heap := h', toks := s.toks + (nestedKind X.prog X.w).draws κ }) -> wpAny (model X.prog X.w) A act Q E s)
    (h : ∀ o' s' kv' vv', NewD (kt X adr) T H (dputK k ks) (dputV k w ks vs) o' kv' vv' -> Inv X pins σ (upd H a (exact o' a)) s' -> Q () s') : wpAny (model X.prog X.w) A act Q E s := by
  have l1 : ks.length < 16777216 := blt lim
  have l2 := dputK_len k ks
  have l3 : (dputK k ks).length <= sizeLine := by rw [sizeLine_eq]; omega
  have mu : Mut (H a) := by rw [D.at_]; exact True.intro
  rcases D.split (G := kt X adr) rfl rfl I.hok fit rk ruk with ⟨κ, kl, us, hκ, hkl, nd, rv, ln, ki, dd⟩ | ⟨κ, kl, us, b, bs, hκ, hkl, nd, rv, ln, ln2, ekv, rfl, rfl, ki, dd⟩
  · have lk : kl.length = ks.length := by have := congrArg List.length hkl; simpa using this.symm
    refine act1 κ kl us ki dd (by rw [List.length_zip, sizeLine_eq]; omega) fun h' dd' sb => ?_
    rw [stored_zip nd ln] at dd'
    obtain ⟨vv', rvs, rv'⟩ := putV_S hκ rw' ruw hkl D.rv rv D.len
    have hk' := putK_S hκ hkl
    obtain ⟨o', ho', d'⟩ := back_S dd' hk' rv' (putU_len ln)
    exact h o' _ _ _ ⟨⟨l3, .inl ⟨_, hk', nodup_putL nd⟩⟩, d', reps_kV hk', rvs⟩ (d_write (t' := s.toks + 1) I mu sb ⟨_, ho'⟩ (exact_ok ho'))
  · have lk : kl.length = ks.length := by have := congrArg List.length hkl; simpa using this.symm
    refine act2 κ _ b rfl ki dd (by rw [List.length_zip, List.length_zip, sizeLine_eq]; omega) fun h' dd' sb => ?_
    rw [storedH_zip nd ln ln2] at dd'
    obtain ⟨vv', rvs, rv'⟩ := putV_T hκ rw' ruw hkl D.rv rv D.len
    have hk' := putK_T hκ hkl
    have lb : (putB κ b kl bs).length = (putU κ uw kl us).length := by rw [<- putB_len (by omega), <- putU_len ln]
    obtain ⟨o', ho', d'⟩ := back_T dd' hk' rv' (putU_len ln) lb
    refine h o' _ _ _ ⟨⟨l3, .inr ⟨_, hk', nodup_putL nd⟩⟩, d', ?_, rvs⟩ (d_write (t' := s.toks + (nestedKind X.prog X.w).draws κ) I mu sb ⟨_, ho'⟩ (exact_ok ho'))
    have r0 := D.rk
    rw [ekv] at r0
    exact reps_putB hκ rk hkl r0
end Mi
end
section
namespace Mi
open PySem PySem.Spec PyProof.Rows L2
variable {G : Kt} {X : Cx} {adr : Ad} {Y : WX}
def fitPut (k : W) (ks : List W) : Bool := match keyFit k ks with
  | true => Nat.blt ks.length 16777216
  | false => false
theorem fitPut_is {k : W} {ks : List W} (h : fitPut k ks = true) : keyFit k ks = true /\ Nat.blt ks.length 16777216 = true := by
  unfold fitPut at h
  cases e : keyFit k ks with
  | true => rw [e] at h; exact ⟨rfl, h⟩
  | false => rw [e] at h; cases h
def sPutEnd (me : Me) (w d k : W) (h : MH) : RS := match d with
  | .ref n => match h.get n with
    | some (.dct ks vs) => match fitPut k ks with
      | true => .nx me (h.set n (.dct (dputK k ks) (dputV k w ks vs)))
      | false => .stuck
    | _ => .stuck
  | _ => .stuck
def sPut (mo mi mv : EM) : SM := fun me h => .ofE me (mv me h) fun w h => .ofE me (mo me h) fun d h => .ofE me (mi me h) fun k h => sPutEnd me w d k h
theorem dat_of {T : Tie} {h : MH} {H : Hp} {n : Nat} {ks vs : List W} {v : V} (hr : Hrel G T h H) (rp : Rep G T H (.ref n) v) (e : h.get n = some (.dct ks vs)) : ∃ a o kv vv, v = .ref a /\ T.ρ n = some a /\ DAt G T H ks vs a o kv vv := by
  obtain ⟨a, ea, o, kv, vv, sm, ko, q, d, r1, r2⟩ := hr.obj _ _ e
  unfold Rep at rp
  exact ⟨a, o, kv, vv, rp.2 a ea, ea, sm, ko, q, d, r1, r2⟩
theorem ms_put {o i value : Expr} {mo mi mv : EM} {pos pos' : Pos} (hu : X.A.units + 64 < cLine) (ho : ME X adr Y o mo) (hi : ME X adr Y i mi) (hv : ME X adr Y value mv) (hs : swapsWith value (some (.Subscript o i pos')) pos.line X.env = pure false) :
    MS X adr Y (.Assign [.Subscript o i pos'] value pos) (sPut mo mi mv) := by
  refine ⟨fun pins s σ H D I ⟨T, me, h, hr, hE, q⟩ => ?_⟩
  refine wpAny_Assign_Subscript (thn (hv.run pins s σ H (fun v1 H1 => ∃ T1 h1 w1, Hrel (kt X adr) T1 h1 H1 /\ Erel (kt X adr) T1 me σ H1 /\ Rep (kt X adr) T1 H1 w1 v1 /\ ResS (kt X adr) Y T1 H1 (.ofE me (mo me h1) fun d h => .ofE me (mi me h) fun k h => sPutEnd me w1 d k h) D) I
    ⟨T, me, h, hr, hE, ResS.bindE hE q fun w1 h1 _ T1 H1 v1 hr1 x1 rp1 hE1 q1 => ⟨T1, h1, w1, hr1, hE1, rp1, q1⟩⟩) fun r s1 ⟨v1, H1, I1, rv1, T1, h1, w1, hr1, hE1, rp1, q1⟩ => ?_) hs
  refine thn (ho.run pins s1 σ H1 (fun v2 H2 => ∃ T2 h2 w2, Hrel (kt X adr) T2 h2 H2 /\ Erel (kt X adr) T2 me σ H2 /\ Ex T1 T2 H1 H2 /\ Rep (kt X adr) T2 H2 w2 v2 /\ ResS (kt X adr) Y T2 H2 (.ofE me (mi me h2) fun k h => sPutEnd me w1 w2 k h) D) I1
    ⟨T1, me, h1, hr1, hE1, ResS.bindE hE1 q1 fun w2 h2 _ T2 H2 v2 hr2 x2 rp2 hE2 q2 => ⟨T2, h2, w2, hr2, hE2, x2, rp2, q2⟩⟩) fun u s2 ⟨v2, H2, I2, rv2, T2, h2, w2, hr2, hE2, x2, rp2, q2⟩ => ?_
  refine thn (hi.run pins s2 σ H2 (fun v3 H3 => ∃ T3 h3 w3, Hrel (kt X adr) T3 h3 H3 /\ Erel (kt X adr) T3 me σ H3 /\ Ex T2 T3 H2 H3 /\ Rep (kt X adr) T3 H3 w3 v3 /\ ResS (kt X adr) Y T3 H3 (sPutEnd me w1 w2 w3 h3) D) I2
    ⟨T2, me, h2, hr2, hE2, ResS.bindE hE2 q2 fun w3 h3 _ T3 H3 v3 hr3 x3 rp3 hE3 q3 => ⟨T3, h3, w3, hr3, hE3, x3, rp3, q3⟩⟩) fun iv s3 ⟨v3, H3, I3, rv3, T3, h3, w3, hr3, hE3, x3, rp3, q3⟩ => ?_
  unfold sPutEnd at q3
  have rp1' := rep_ex x3 _ _ (rep_ex x2 _ _ rp1)
  have rp2' := rep_ex x3 _ _ rp2
  split at q3
  · rename_i n
    split at q3
    · rename_i ks vs eg
      split at q3
      · rename_i ef
        obtain ⟨a, o, kv, vv, rfl, ea, DA⟩ := dat_of hr3 rp2' eg
        obtain rfl : u = .ref a := rv2
        obtain ⟨f1, f2⟩ := fitPut_is ef
        refine put_W (A := X.A) (by omega) I3 DA f1 f2 rp3 rv3 rp1' rv1 (setItem (.ref a) iv r) (fun κ kl us ki dd hz k => wpAny_setItem_pairs (hsz := hz) ki dd k) (fun κ xs b eb ki dd hz k => ?_) fun o' s4 kv' vv' N I4 => ?_
        · subst eb
          exact wpAny_setItem_heap (hsz := hz) (room8 hu) ki dd k
        · obtain ⟨hr4, x4⟩ := box_set (o := .dct (dputK w3 ks) (dputV w3 w1 ks vs)) hr3 eg ea (show RepO (kt X adr) T3 (upd H3 a (exact o' a)) (.dct _ _) a from ⟨o', kv', vv', DA.sm, N.ok, upd_same, N.d, reps_upd hr3.ok ea N.rk, reps_upd hr3.ok ea N.rv⟩)
          exact ⟨σ, _, I4, q3 T3 _ σ hr4 x4 (hE3.ex x4)⟩
      · exact q3.elim
    · exact q3.elim
  · exact q3.elim
end Mi
end
section
namespace Mi
open PySem PySem.Spec PyProof.Rows L2
variable {G : Kt} {X : Cx} {adr : Ad} {Y : WX}
theorem dat_hid {T : Tie} {h : MH} {H : Hp} {D : Addr} {ks vs : List W} {o : Obj} {kv vv : List V} (hr : Hrel G T h H) (hm : D ∈ T.hid) (sm : (D == sysModules) = false) (N : NewD G T H ks vs o kv vv) : DAt G T (upd H D (exact o D)) ks vs D o kv vv :=
  ⟨sm, N.ok, upd_same, N.d, reps_setD hm N.rk, reps_setD hm N.rv⟩
abbrev emptyO : Obj := { cls := .type "dict", data := .dict #[] }
theorem empty_ok : DictO emptyO [] [] [] := ⟨⟨rfl, rfl, rfl⟩, #[], 0, rfl, .nil⟩
theorem keysOk_nil : KeysOk [] := ⟨Nat.zero_le _, .inl ⟨[], rfl, List.nodup_nil⟩⟩
theorem sysN {pins : List (Addr × Obj)} {σ : Sl} {H : Hp} {s : Shared} (I : Inv X pins σ H s) : (s.heap.objs.size == sysModules) = false := by
  rw [beq_eq_false_iff_ne]
  exact Nat.ne_of_gt I.big
end Mi
end
section
namespace Mi
open PySem PySem.Spec PyProof.Rows L2
variable {G : Kt} {X : Cx} {adr : Ad} {Y : WX}
section
variable {pos : Pos} {keys : List (Option Expr)} {values : List Expr} {as : AM}
def mDict0B : EM := fun _ h => .ok (.ref h.nx) (h.new (.dct [] []))
theorem me_dict0B : ME X adr Y (.Dict [] [] pos) mDict0B := ⟨fun pins s σ H Q I ⟨T, me, h, hr, hE, q⟩ => wpAny_Dict_empty (by
  have hp : H s.heap.objs.size = none := I.hok.fresh (Nat.le_refl _)
  obtain ⟨a, b, c⟩ := box_new (ho := exact emptyO s.heap.objs.size) (o := .dct [] []) hr hp fun _ => ⟨emptyO, [], [], sysN I, keysOk_nil, upd_same, empty_ok, .nil, .nil⟩
  exact ⟨.ref s.heap.objs.size, _, I.laid (t' := s.toks) (fun b u e => Heap.get?_push_of_some _ e) (Nat.le_refl _) (exact_ok (o := emptyO) (Heap.get?_push_size _ rfl)), rfl, q _ _ _ a b c⟩)⟩
end
end Mi
end
section
namespace Mi
open PySem PySem.Spec PyProof.Rows L2
variable {G : Kt} {X : Cx} {adr : Ad} {Y : WX}
abbrev PutR := Addr -> V -> V -> Hp -> (Hp -> Prop) -> Prop
def PutOk (X : Cx) (put : PutR) : Prop := ∀ (X' : Cx), X'.prog = X.prog -> X'.w = X.w -> X'.K = X.K -> X'.A = X.A -> ∀ (pins : List (Addr × Obj)) (s : Shared) (σ : Sl) (H : Hp) (E : Value -> Shared -> Prop) (D : Addr) (y z : V) (u r : Value) (Nx : Hp -> Prop) (Q : Unit -> Shared -> Prop),
  Inv X' pins σ H s -> RelV y u -> RelV z r -> put D y z H Nx -> (∀ s' H', Inv X' pins σ H' s' -> Nx H' -> Q () s') -> wpAny (model X.prog X.w) X.A (dictSet D u r) Q E s
def tDcm (wi : TI) (g : TG) (tt : TT) (tk tv : TE) (vs : List Nat) (put : PutR) : TE := fun σ H Q => wi σ H fun J H1 => ∀ D, H1 D = none -> (D == sysModules) = false -> ∃ W : Nat -> Nat -> Hp -> Prop, (∃ m, W 0 m (upd H1 D (exact emptyO D))) /\ ∀ i m H, W i m H ->
  (J.stop i H /\ Q (.ref D) H) \/ (J.go i H /\ ∃ Nx : Hp -> Prop, (∀ H', Nx H' -> ∃ m', m' < m /\ W (i + 1) m' H') /\ ∀ x H', J.yld i H x H' -> g x (wipe σ vs) H' fun σ2 H2 => wipe σ2 vs = wipe σ vs /\ tt σ2 H2 fun b H3 =>
    if b = true then tk σ2 H3 fun y H4 => tv σ2 H4 fun z H5 => put D y z H5 Nx else Nx H3)
theorem dcm_core {kx vx tg iter : Expr} {ifs : List Expr} {scope : Scope} {own : List (Str × Nat)} {pos : Pos} {wi : TI} {g : TG} {tt : TT} {tk tv : TE} {put : PutR} {use : Option (Value -> Sem Unit)} {Qf : Value -> Shared -> Prop} {pins : List (Addr × Obj)} {s : Shared} {σ : Sl} {H : Hp} {Q : VK} {pos' : Pos} (hput : PutOk X put) (hc : X.calm = true) (hN : X.N.Nodup) (hi : PI X tg iter wi) (ok : BlkOk X.N X.env.scope scope own)
    (hg : ∀ (s : Shared) (H : Hp) (C : Addr) (cl : List (Str × Addr)) (fp : List Addr), PG (X.blk s H scope (compEnvC scope cl C X.env) fp) tg g)
    (ht : ∀ (s : Shared) (H : Hp) (C : Addr) (cl : List (Str × Addr)) (fp : List Addr), PTs (X.blk s H scope (compEnvC scope cl C X.env) fp) ifs tt)
    (hk : ∀ (s : Shared) (H : Hp) (C : Addr) (cl : List (Str × Addr)) (fp : List Addr), PE (X.blk s H scope (compEnvC scope cl C X.env) fp) kx tk)
    (hv : ∀ (s : Shared) (H : Hp) (C : Addr) (cl : List (Str × Addr)) (fp : List Addr), PE (X.blk s H scope (compEnvC scope cl C X.env) fp) vx tv) (hs : ∀ x, foldedSetIterable iter X.env x = pure x)
    (I : Inv X pins σ H s) (h : tDcm wi g tt tk tv (own.map (·.2)) put σ H Q)
    (hRR : ∀ D C s' m H', Inv X pins σ H' s' -> Q (.ref D) H' -> s'.heap.Ns C m -> FpOk X pins H' C -> compPost (model X.prog X.w) X.A X.xe use Qf (.ref D) C (.ok .next) s') :
    wpAny (model X.prog X.w) X.A (comprehension (.DictComp kx vx [⟨tg, iter, ifs, 0⟩] scope pos) scope X.env pos' newDict false (eval iter X.env) use) Qf X.xe s := by
  have hfree : ∀ y ∈ scope.names, y.2 = .free -> ∃ c, X.env.cells.lookup y.1 = some c := fun y hy e => (ok.free y hy e).elim (fun k => I.ok.has _ (.inl k)) fun k => I.ok.has _ (.inr k)
  refine wpAny_comprehension_free (use := use) rfl hs (closure_ok hfree) ok.kind (fun y hy e => by rw [ok.uniq y hy, e]) (thn (hi.run pins s σ H _ I h) fun xv s1 hx => thn hx fun itv s2 ⟨it, fp, tn, J, H2, e, I2, T, st2, f2, q⟩ => ?_)
  subst e
  refine wpAny_newObj_type (newEnv_comp ?_)
  generalize hD : s2.heap.objs.size = D
  have sm : (D == sysModules) = false := by rw [<- hD]; exact sysN I2
  have hDn : H2 D = none := I2.hok.fresh (Nat.le_of_eq hD)
  obtain ⟨W, ⟨m0, w0⟩, turn⟩ := q D hDn sm
  generalize hs3 : ({ s2 with heap := s2.heap.push emptyO } : Shared) = s3
  have h3 : s3.heap = s2.heap.push emptyO := by rw [<- hs3]
  have up : ∀ b o, s2.heap.get? b = some o -> s3.heap.get? b = some o := fun b o e => by rw [h3]; exact Heap.get?_push_of_some _ e
  have I3 : Inv X pins σ (upd H2 D (exact emptyO D)) s3 := by
    rw [<- hs3, <- hD]
    exact I2.laid (t' := s2.toks) (fun b o e => Heap.get?_push_of_some _ e) (Nat.le_refl _) (exact_ok (o := emptyO) (Heap.get?_push_size _ rfl))
  have f3 : ∀ b ∈ fp, FpOk X pins (upd H2 D (exact emptyO D)) b /\ b < s3.heap.objs.size := fun b hb => by
    obtain ⟨o, e, _⟩ := T.obj _ _ st2 b hb
    have lt := Heap.lt_size e
    refine ⟨⟨?_, (f2 b hb).2⟩, Heap.lt_size (up b o e)⟩
    rw [upd_ne (by rw [<- hD]; exact Nat.ne_of_lt lt)]
    exact (f2 b hb).1
  have st3 : tn 0 s3.heap := T.keep _ _ _ st2 fun b _ o e => up b o e
  have I4 := block_start I3 ok hN f3
  have pg := hg s3 (upd H2 D (exact emptyO D)) s3.heap.objs.size (cellsFrom (s3.heap.objs.size + 1) scope.names (cloFrom X.env.cells scope.names [])) fp
  have pt := ht s3 (upd H2 D (exact emptyO D)) s3.heap.objs.size (cellsFrom (s3.heap.objs.size + 1) scope.names (cloFrom X.env.cells scope.names [])) fp
  have pk := hk s3 (upd H2 D (exact emptyO D)) s3.heap.objs.size (cellsFrom (s3.heap.objs.size + 1) scope.names (cloFrom X.env.cells scope.names [])) fp
  have pe := hv s3 (upd H2 D (exact emptyO D)) s3.heap.objs.size (cellsFrom (s3.heap.objs.size + 1) scope.names (cloFrom X.env.cells scope.names [])) fp
  show codeAny _ _ (.compStart (.DictComp kx vx [⟨tg, iter, ifs, 0⟩] scope pos) 0 (.ref it) (.ref D) (compEnvC scope (cellsFrom (s3.heap.objs.size + 1) scope.names (cloFrom X.env.cells scope.names [])) s3.heap.objs.size X.env)) (compPost (model X.prog X.w) X.A X.xe use Qf (.ref D) s3.heap.objs.size) { s3 with heap := pushCells (s3.heap.push { cls := .type "dict", data := .dict #[] }) scope.names }
  have nfp : ∀ b ∈ fp, (upd H2 D (exact emptyO D)) b = none := fun b hb => (f3 b hb).1.1
  generalize hce : compEnvC scope (cellsFrom (s3.heap.objs.size + 1) scope.names (cloFrom X.env.cells scope.names [])) s3.heap.objs.size X.env = ce at I4 pg pt pk pe ⊢
  have cL : ce.locals = s3.heap.objs.size := by subst hce; rfl
  generalize hH3 : upd H2 D (exact emptyO D) = H3 at I3 I4 pg pt pk pe w0 nfp f3
  generalize hs4 : ({ s3 with heap := pushCells (s3.heap.push { cls := .type "dict", data := .dict #[] }) scope.names } : Shared) = s4 at I4 ⊢
  have st4 : tn 0 s4.heap := T.keep _ _ _ st3 fun b _ o e => by rw [<- hs4]; exact pushCells_keeps _ _ _ _ (Heap.get?_push_of_some _ e)
  have stat : ∀ {σ' : Sl} {H' : Hp} {s' : Shared}, Inv (X.blk s3 H3 scope ce fp) [] σ' H' s' -> (∀ b ∈ fp, H' b = none) -> ∀ b ∈ fp, FpOk (X.blk s3 H3 scope ce fp) [] H' b := fun {σ' H' s'} I' hn b hb =>
    ⟨hn b hb, (I'.ok.exf b hb).1, I'.ok.exfs b hb, .inl hb, fun x c e => (I'.ok.exf b hb).2 x c e, fun p hp => absurd (show p ∈ ([] : List (Addr × Obj)) ++ [] from hp) (by simp)⟩
  refine codeAny_compStart_dict ?loop (T.self X.A 0 _ _ _ st4 ?loop)
  refine compLoop_anyD (fun n s' => ∃ i H', Inv (X.blk s3 H3 scope ce fp) [] (wipe σ (own.map (·.2))) H' s' /\ tn i s'.heap /\ (∀ b ∈ fp, H' b = none) /\ W i n H') ?_ m0 ⟨0, H3, I4, st4, nfp, w0⟩
  rintro n s5 ⟨i, H5, I5, st5, n5, w5⟩
  rcases turn i n H5 w5 with ⟨stop, qq⟩ | ⟨go, Nx, hNx, step⟩
  · refine thnF (T.done (X.blk s3 H3 scope ce fp) rfl rfl rfl hc i [] s5 _ H5 (fun _ _ => False) I5 (stat I5 n5) st5 stop) fun r s6 ⟨hr, I6⟩ => ?_
    subst hr
    have I7 : Inv X pins σ H5 s6 := I3.call' (ch := fp) I6.os I6.base I6.hok I6.bare fun b hb => ⟨(f3 b hb).1.2.2.2.1, (f3 b hb).1.2.1, (f3 b hb).1.2.2.2.2.1, (f3 b hb).1.2.2.2.2.2⟩
    have nC : H5 s3.heap.objs.size = none := by
      have z : H5 ce.locals = none := I6.free
      rwa [cL] at z
    obtain ⟨m, hn, _⟩ := I6.loc
    have hn : s6.heap.Ns ce.locals m := hn
    rw [cL] at hn
    exact hRR D s3.heap.objs.size s6 m H5 I7 qq hn (I3.fpOk (Nat.le_refl _) nC)
  · refine thnF (T.item (X.blk s3 H3 scope ce fp) rfl rfl rfl hc i [] s5 _ H5 (fun _ _ => False) I5 (stat I5 n5) st5 go) fun r s6 ⟨u, hr, h6⟩ => ?_
    subst hr
    refine thnF h6 fun _ s7 ⟨x, H7, I7, r7, y7, st7, n7⟩ => ?_
    refine thnF (pg.run _ s7 _ H7 x u _ (I7.pinned (stat I7 n7) (T.obj _ _ st7)) r7 (step x H7 y7)) fun _ s8 ⟨σ8, H8, I8, hw8, q8⟩ => ?_
    refine thnF (pt.run _ s8 σ8 H8 _ I8 q8) fun b s9 ⟨H9, I9, q9⟩ => ?_
    have fin : ∀ (s' : Shared) (H' : Hp), Inv (X.blk s3 H3 scope ce fp) ([] ++ pinsAt fp s7.heap) σ8 H' s' -> Nx H' -> ∃ m, m < n /\ ∃ i H', Inv (X.blk s3 H3 scope ce fp) [] (wipe σ (own.map (·.2))) H' s' /\ tn i s'.heap /\ (∀ b ∈ fp, H' b = none) /\ W i m H' := fun s' H' I' nx => by
      obtain ⟨m', hm, w'⟩ := hNx H' nx
      have pin' : ∀ b ∈ fp, ∀ o, s7.heap.get? b = some o -> s'.heap.get? b = some o /\ H' b = none := fun b hb o e =>
        let z := I'.pin (b, o) (List.mem_append_right _ (List.mem_append_right _ (mem_pinsAt hb e)))
        ⟨z.1, z.2.1⟩
      refine ⟨m', hm, i + 1, H', (I'.unpinned (pins := [])).weak (by rw [<- hw8, wipe_length]) (fun j v e => (wipe_some (by rw [<- hw8] at e; exact e)).1), T.keep _ _ _ st7 fun b hb o e => (pin' b hb o e).1, fun b hb => ?_, w'⟩
      obtain ⟨o, e, _⟩ := T.obj _ _ st7 b hb
      exact (pin' b hb o e).2
    cases b with
    | false => exact fin s9 H9 I9 (by simpa using q9)
    | true =>
      simp only [if_true] at q9 ⊢
      refine thnF (pk.run _ s9 σ8 H9 _ I9 q9) fun z s10 ⟨yk, H10, I10, r10, q10⟩ => ?_
      refine thnF (pe.run _ s10 σ8 H10 _ I10 q10) fun z2 s11 ⟨yv, H11, I11, r11, nx⟩ => ?_
      exact hput (X.blk s3 H3 scope ce fp) rfl rfl rfl rfl _ s11 σ8 H11 _ D yk yv z z2 Nx _ I11 r10 r11 nx fin
theorem pe_dcm {kx vx tg iter : Expr} {ifs : List Expr} {scope : Scope} {own : List (Str × Nat)} {pos : Pos} {wi : TI} {g : TG} {tt : TT} {tk tv : TE} {put : PutR} (hput : PutOk X put) (hc : X.calm = true) (hN : X.N.Nodup) (hi : PI X tg iter wi) (ok : BlkOk X.N X.env.scope scope own)
    (hg : ∀ (s : Shared) (H : Hp) (C : Addr) (cl : List (Str × Addr)) (fp : List Addr), PG (X.blk s H scope (compEnvC scope cl C X.env) fp) tg g)
    (ht : ∀ (s : Shared) (H : Hp) (C : Addr) (cl : List (Str × Addr)) (fp : List Addr), PTs (X.blk s H scope (compEnvC scope cl C X.env) fp) ifs tt)
    (hk : ∀ (s : Shared) (H : Hp) (C : Addr) (cl : List (Str × Addr)) (fp : List Addr), PE (X.blk s H scope (compEnvC scope cl C X.env) fp) kx tk)
    (hv : ∀ (s : Shared) (H : Hp) (C : Addr) (cl : List (Str × Addr)) (fp : List Addr), PE (X.blk s H scope (compEnvC scope cl C X.env) fp) vx tv) (hs : ∀ x, foldedSetIterable iter X.env x = pure x) :
    PE X (.DictComp kx vx [⟨tg, iter, ifs, 0⟩] scope pos) (tDcm wi g tt tk tv (own.map (·.2)) put) := by
  refine ⟨fun pins s σ H Q I h => ?_⟩
  rw [arm_eval_DictComp]
  refine dcm_core hput hc hN hi ok hg ht hk hv hs I h fun D C s' m H' I' q hn f => ⟨m, hn, fun h'' sb => ?_⟩
  obtain ⟨f0, f1, f2, f3, f4, f5⟩ := f
  exact ⟨.ref D, H', I'.turned (t' := s'.toks) (fun b o hb e => (sb.2 b hb).trans e) f0 f1 f3 f4 f5, rfl, q⟩
def dcM (g : GM) (t ek ev : EM) (me0 : Me) : List W -> List W -> List W -> MH -> R (List W × List W)
  | [], ks, vs, h => .ok (ks, vs) h
  | w :: r, ks, vs, h => match g w me0 with
    | none => .stuck
    | some me => (t me h).nox.bind fun b h => match b with
      | .bl true => (ek me h).nox.bind fun k h => (ev me h).nox.bind fun v h => match fitPut k ks with
        | true => dcM g t ek ev me0 r (dputK k ks) (dputV k v ks vs) h
        | false => .stuck
      | .bl false => dcM g t ek ev me0 r ks vs h
      | _ => .stuck
def mDc (src : AM) (g : GM) (t ek ev : EM) (sl : List Nat) : EM := fun me h => (src me h).bind fun ws h => (dcM g t ek ev (wipeW me sl) ws [] [] h).bind fun p h => .ok (.dct p.1 p.2) h
def putM (G : Kt) : PutR := fun D y z H Nx => ∃ T h ks vs o kv vv k w, Hrel G T h H /\ D ∈ T.hid /\ DAt G T H ks vs D o kv vv /\ fitPut k ks = true /\ Rep G T H k y /\ Rep G T H w z /\ ∀ o' kv' vv', NewD G T H (dputK k ks) (dputV k w ks vs) o' kv' vv' -> Nx (upd H D (exact o' D))
theorem putM_ok (hu : X.A.units + 64 < cLine) : PutOk X (putM (kt X adr)) := by
  intro X' e1 e2 e3 e4 pins s σ H E D y z u r Nx Q I ru rr ⟨T, h, ks, vs, o, kv, vv, k, w, hr, hm, DA, ef, rk, rw', nx⟩ hQ
  have ek : kt X adr = kt X' adr := by unfold kt; rw [e1, e2, e3]
  rw [ek] at DA rk rw' nx
  obtain ⟨f1, f2⟩ := fitPut_is ef
  have hu' : X.A.units + 8 < cLine := by omega
  rw [<- e1, <- e2]
  exact put_W (A := X.A) hu' I DA f1 f2 rk ru rw' rr (dictSet D u r) (fun κ kl us ki dd hz k => wpAny_dictSet_pairs (hsz := hz) ki dd k) (fun κ xs b eb ki dd hz k => by
    subst eb
    exact wpAny_dictSet_heap (hsz := hz) (show X.A.units + 8 < cLine from hu') ki dd k) fun o' s4 kv' vv' N I4 => hQ s4 _ I4 (nx o' kv' vv' N)
theorem rd_dc {src : AM} {g : GM} {t ek ev : EM} {sl : List Nat} : ∀ σ H Q, rdE (kt X adr) Y (mDc src g t ek ev sl) σ H Q -> tDcm (rdI (kt X adr) Y src) (rdG (kt X adr) g sl) (rdT (kt X adr) Y0 t) (rdE (kt X adr) Y0 ek) (rdE (kt X adr) Y0 ev) sl (putM (kt X adr)) σ H Q := by
  intro σ H Q ⟨T, me, h, hr, hE, q⟩
  refine ⟨T, me, h, hr, hE, Res.bind q fun ws h1 _ T1 H1 J hr1 x1 wk q1 D hD sm => ?_⟩
  have hE1 := (hE.ex x1).wipe sl
  obtain ⟨hr2, x2⟩ := hide_new (o := exact emptyO D) hr1 hD
  have D2 : DAt (kt X adr) (T1.hide D) (upd H1 D (exact emptyO D)) [] [] D emptyO [] [] := ⟨sm, keysOk_nil, upd_same, empty_ok, .nil, .nil⟩
  refine ⟨fun i m H => m = ws.length - i /\ i <= ws.length /\ ∃ T2 h2 ks vs o kv vv, Hrel (kt X adr) T2 h2 H /\ Ex T1 T2 H1 H /\ D ∈ T2.hid /\ DAt (kt X adr) T2 H ks vs D o kv vv /\
    ResV (kt X adr) Y T1 H1 σ ((dcM g t ek ev (wipeW me sl) (ws.drop i) ks vs h2).bind fun p h => .ok (.dct p.1 p.2) h) Q, ⟨ws.length, by simp, Nat.zero_le _, T1.hide D, h1, [], [], emptyO, [], [], hr2, x2, List.mem_cons_self, D2, by simpa using q1⟩, ?_⟩
  rintro i m H2 ⟨rfl, hi, T2, h2, ks, vs, o, kv, vv, hr2, x2, hm, DA, q2⟩
  cases ed : ws.drop i with
  | nil =>
    have el : i = ws.length := by
      have := congrArg List.length ed
      simp at this
      omega
    subst el
    rw [ed] at q2
    refine .inl ⟨wk.stop T2 H2 hr2.ok x2, ?_⟩
    obtain ⟨hr3, x3, fD, hf⟩ := unhide hr2 x2 hr1.ok hD hm (fun ps z => by rw [DA.at_] at z; cases z)
    refine q2 (T2.show D) H2 (.ref D) hr3 x3 ?_
    have le : T2.nx <= (T2.show D).nx := Nat.le_refl _
    unfold Rep
    exact ⟨D, o, kv, vv, rfl, fD, DA.sm, DA.ok, DA.at_, DA.d, reps_as le hf (fun _ _ _ e => e) _ _ DA.rk, reps_as le hf (fun _ _ _ e => e) _ _ DA.rv⟩
  | cons w r =>
    obtain ⟨ew, er, lt'⟩ := drop_cons ed
    rw [ed] at q2
    unfold dcM at q2
    refine .inr ⟨wk.go T2 H2 i hr2.ok x2 lt', fun H => ∃ T2 h2 ks vs o kv vv, Hrel (kt X adr) T2 h2 H /\ Ex T1 T2 H1 H /\ D ∈ T2.hid /\ DAt (kt X adr) T2 H ks vs D o kv vv /\
      ResV (kt X adr) Y T1 H1 σ ((dcM g t ek ev (wipeW me sl) (ws.drop (i + 1)) ks vs h2).bind fun p h => .ok (.dct p.1 p.2) h) Q, fun H' z => ⟨_, by omega, rfl, lt', z⟩, fun x H3 y => ?_⟩
    obtain ⟨hr3, x3, rpw⟩ := wk.yld T2 H2 i x H3 h2 w hr2 x2 ew y
    have DA3 : DAt (kt X adr) T2 H3 ks vs D o kv vv := ⟨DA.sm, DA.ok, x3.hidL hm DA.at_ (fun ps => exact_ne_tbl ps), DA.d, reps_ex x3 _ _ DA.rk, reps_ex x3 _ _ DA.rv⟩
    cases eg : g w (wipeW me sl) with
    | none => rw [eg] at q2; exact q2.elim
    | some me3 =>
      rw [eg] at q2
      dsimp only at q2
      rw [R.bind_bind] at q2
      obtain ⟨b, h4, et, q3⟩ := nox_cases q2
      have x13 := x2.trans x3
      refine ⟨T2, wipeW me sl, h2, w, hr3, hE1.ex x13, rpw, me3, eg, fun σ4 e4 w4 => ⟨?_, T2, me3, h2, hr3, e4, ?_⟩⟩
      · rw [w4]
        apply List.ext_getElem?
        intro j
        rw [wipe_get, wipe_get, wipe_length]
        by_cases z : j ∈ sl /\ j < σ.length
        · rw [if_pos z, if_pos z]
        · rw [if_neg z, if_neg z]
      · rw [et]
        cases b with
        | bl k =>
          intro T5 H5 k' hr5 x5 rk
          cases rk
          have hm5 : D ∈ T5.hid := x5.hid D hm
          have DA5 : DAt (kt X adr) T5 H5 ks vs D o kv vv := ⟨DA.sm, DA.ok, x5.hidL hm DA3.at_ (fun ps => exact_ne_tbl ps), DA.d, reps_ex x5 _ _ DA3.rk, reps_ex x5 _ _ DA3.rv⟩
          cases k with
          | false =>
            rw [if_neg Bool.false_ne_true]
            exact ⟨T5, h4, ks, vs, o, kv, vv, hr5, x13.trans x5, hm5, DA5, by rw [er]; exact q3⟩
          | true =>
            rw [if_pos rfl]
            dsimp only at q3
            rw [R.bind_bind] at q3
            obtain ⟨kw, h6, ee, q4⟩ := nox_cases q3
            refine ⟨T5, me3, h4, hr5, e4.ex x5, ?_⟩
            rw [ee]
            intro T7 H7 v7 hr7 x7 rp7
            have hm7 : D ∈ T7.hid := x7.hid D hm5
            have DA7 : DAt (kt X adr) T7 H7 ks vs D o kv vv := ⟨DA.sm, DA.ok, x7.hidL hm5 DA5.at_ (fun ps => exact_ne_tbl ps), DA.d, reps_ex x7 _ _ DA5.rk, reps_ex x7 _ _ DA5.rv⟩
            rw [R.bind_bind] at q4
            obtain ⟨vw, h8, ef, q5⟩ := nox_cases q4
            refine ⟨T7, me3, h6, hr7, (e4.ex x5).ex x7, ?_⟩
            rw [ef]
            intro T9 H9 v9 hr9 x9 rp9
            have hm9 : D ∈ T9.hid := x9.hid D hm7
            have DA9 : DAt (kt X adr) T9 H9 ks vs D o kv vv := ⟨DA.sm, DA.ok, x9.hidL hm7 DA7.at_ (fun ps => exact_ne_tbl ps), DA.d, reps_ex x9 _ _ DA7.rk, reps_ex x9 _ _ DA7.rv⟩
            have x19 := ((x13.trans x5).trans x7).trans x9
            cases fp : fitPut kw ks with
            | false => rw [fp] at q5; exact q5.elim
            | true =>
              rw [fp] at q5
              refine ⟨T9, h8, ks, vs, o, kv, vv, kw, vw, hr9, hm9, DA9, fp, rep_ex x9 _ _ rp7, rp9, fun o' kv' vv' N => ?_⟩
              obtain ⟨hr10, _⟩ := hid_set (o := exact o' D) hr9 hm9 (fun ps z => by rw [DA9.at_] at z; cases z)
              exact ⟨T9, h8, _, _, o', kv', vv', hr10, x19.setD hD hr1.ok (fun q z => exact_ne_code DA9.d q (Option.some.inj (DA9.at_.symm.trans z))), hm9, dat_hid hr9 hm9 DA.sm N, by rw [er]; exact q5⟩
        | _ => exact q3.elim
theorem me_dc {kx vx tg iter : Expr} {ifs : List Expr} {scope : Scope} {own : List (Str × Nat)} {pos : Pos} {src : AM} {g : GM} {t ek ev : EM} {sl : List Nat} (hu : X.A.units + 64 < cLine) (hc : X.calm = true) (hN : X.N.Nodup) (hi : MI X adr Y tg iter src) (ok : BlkOk X.N X.env.scope scope own) (hsl : sl = own.map (·.2))
    (hg : ∀ (s : Shared) (H : Hp) (C : Addr) (cl : List (Str × Addr)) (fp : List Addr), MG (X.blk s H scope (compEnvC scope cl C X.env) fp) adr tg g sl) (ht : ∀ (s : Shared) (H : Hp) (C : Addr) (cl : List (Str × Addr)) (fp : List Addr), MTs (X.blk s H scope (compEnvC scope cl C X.env) fp) adr Y0 ifs t)
    (hk : ∀ (s : Shared) (H : Hp) (C : Addr) (cl : List (Str × Addr)) (fp : List Addr), ME (X.blk s H scope (compEnvC scope cl C X.env) fp) adr Y0 kx ek) (hv : ∀ (s : Shared) (H : Hp) (C : Addr) (cl : List (Str × Addr)) (fp : List Addr), ME (X.blk s H scope (compEnvC scope cl C X.env) fp) adr Y0 vx ev)
    (hs : ∀ x, foldedSetIterable iter X.env x = pure x) :
    ME X adr Y (.DictComp kx vx [⟨tg, iter, ifs, 0⟩] scope pos) (mDc src g t ek ev sl) := by
  subst hsl
  exact pe_imp (pe_dcm (g := rdG (kt X adr) g (own.map (fun x : Str × Nat => x.2))) (tt := rdT (kt X adr) Y0 t) (tk := rdE (kt X adr) Y0 ek) (tv := rdE (kt X adr) Y0 ev) (putM_ok (adr := adr) hu) hc hN hi ok hg ht hk hv hs) rd_dc
end Mi
end
section
namespace Mi
open PySem PySem.Spec PyProof.Rows L2
variable {G : Kt} {X : Cx} {adr : Ad} {Y : WX}
abbrev FMe := W -> List W -> MH -> R W
def rM (G : Kt) (F : FMe) : V -> List V -> Hp -> VK -> Prop := fun x xs H Q => ∃ T h w ws w' h', Hrel G T h H /\ Rep G T H w x /\ Reps G T H ws xs /\ F w ws h = .ok w' h' /\ ∀ T' H' v, Hrel G T' h' H' -> Ex T T' H H' -> Rep G T' H' w' v -> Q v H'
def TyW (X : Cx) (adr : Ad) (T : String) (isT : W -> MH -> Bool) : Prop := ∀ (pins : List (Addr × Obj)) (σ : Sl) (H : Hp) (s : Shared) (T0 : Tie) (h : MH) (w : W) (x : V) (v : Value), Inv X pins σ H s -> Hrel (kt X adr) T0 h H -> Rep (kt X adr) T0 H w x -> RelV x v -> isT w h = true -> s.TypeIs v T /\ ∀ a, v = .ref a -> ∃ ob, s.heap.get? a = some ob /\ ob.dict = none
def mMeth (isT : W -> MH -> Bool) (F : FMe) (mo : EM) (as : AM) : EM := fun me h => (mo me h).bind fun w h => match isT w h with
  | true => (as me h).bind fun xs h => match F w xs h with
    | .ok z h => .ok z h
    | _ => .stuck
  | false => .stuck
section
variable {o e : Expr} {es : List Expr} {mo : EM} {as : AM} {name : Str} {apos cpos : Pos} {T id : String} {isT : W -> MH -> Bool} {F : FMe}
theorem me_bm (pa : PlainAttrs T) (slot : Slot T name id) (hty : typeOf (.builtin id) = pure (.type "method_descriptor")) (hm : MtR X id (rM (kt X adr) F)) (ty : TyW X adr T isT) (ho : ME X adr Y o mo) (ha : MA X adr Y (e :: es) as)
    (hbase : attributeBase o name X.env (eval o X.env) = eval o X.env := by rfl)
    (hfew : ((backTo cpos (starEach (e :: es) X.env)).all (fun x => !x.1) && (backToKw cpos (keywordEach [] X.env)).all (fun x => x.1.isSome)
      && decide ((e :: es).length + ([] : List Keyword).length + (if ([] : List Keyword).isEmpty then 0 else 1) < 30)) = true := by rfl)
    (hline : (apos.endLine == cpos.line) = true := by rfl) (hs : starEach (e :: es) X.env = (false, eval e X.env) :: starEach es X.env := by rfl) (hplain : (backTo cpos (starEach es X.env)).any (·.1) = false := by rfl) :
    ME X adr Y (.Call (.Attribute o name apos) (e :: es) [] cpos) (mMeth isT F mo as) := by
  refine ⟨fun pins s σ H Q I ⟨T0, me, h, hr, hE, q⟩ => ?_⟩
  refine wpAny_Call_method_late hbase hfew hline rfl (thn (ho.run pins s σ H (fun x H1 => ∃ T1 h1 w1, Hrel (kt X adr) T1 h1 H1 /\ Erel (kt X adr) T1 me σ H1 /\ Rep (kt X adr) T1 H1 w1 x /\ isT w1 h1 = true /\ ResV (kt X adr) Y T1 H1 σ ((as me h1).bind fun xs h => match F w1 xs h with
    | .ok z h => .ok z h
    | _ => .stuck) Q) I ⟨T0, me, h, hr, hE, Res.bind q fun w1 h1 _ T1 H1 v1 hr1 x1 rp1 q1 => ?_⟩) fun v s1 ⟨x, H1, I1, r1, T1, h1, w1, hr1, hE1, rp1, et, q1⟩ => ?_)
  · cases et : isT w1 h1 with
    | false => rw [et] at q1; exact q1.elim
    | true => rw [et] at q1; exact ⟨T1, h1, w1, hr1, hE.ex x1, rp1, et, q1⟩
  · obtain ⟨t1, t2⟩ := ty pins σ H1 s1 T1 h1 w1 x v I1 hr1 rp1 r1 et
    refine ⟨T, id, pa, slot, hty, t1, t2, ?_⟩
    have hA := ha.run cpos pins s1 σ H1 (fun xs H2 => rM (kt X adr) F x xs H2 Q) I1 ⟨T1, me, h1, hr1, hE1, Res.bind q1 fun xs h2 _ T2 H2 vs hr2 x2 rp2 q2 => by
      cases ef : F w1 xs h2 with
      | ok z h3 => rw [ef] at q2; exact ⟨T2, h2, w1, xs, z, h3, hr2, rep_ex x2 _ _ rp1, rp2, ef, q2⟩
      | exc _ _ => rw [ef] at q2; exact q2.elim
      | stuck => rw [ef] at q2; exact q2.elim⟩
    rw [hs] at hA ⊢
    refine Calls.callWith_builtin (by show (false || (backTo cpos (starEach es X.env)).any (·.1)) = false; rw [hplain] <;> rfl) (Calls.evalArgs_plain ?_)
    exact thn hA fun us s2 ⟨vs, H2, I2, r2, q2⟩ => hm pins s2 σ H2 x vs v us Q I2 r1 r2 q2
end
def isL (w : W) (h : MH) : Bool := match lstOf w h with
  | some _ => true
  | none => false
theorem ty_list : TyW X adr "list" isL := by
  intro pins σ H s T0 h w x v I hr rp ru e
  unfold isL at e
  split at e
  · rename_i ws el
    obtain ⟨a, vs, rfl, q, r⟩ := lst_at hr rp el
    obtain rfl : v = .ref a := ru
    obtain ⟨_, its, n, rv, p⟩ := I.hok _ _ q
    exact ⟨⟨_, p, rfl⟩, fun b eb => by cases eb; exact ⟨_, p, rfl⟩⟩
  · cases e
def isD (w : W) (h : MH) : Bool := match dctOf w h with
  | some _ => true
  | none => false
theorem ty_dict : TyW X adr "dict" isD := by
  intro pins σ H s T0 h w x v I hr rp ru e
  unfold isD at e
  split at e
  · rename_i p el
    obtain ⟨ks, vs⟩ := p
    obtain ⟨a, o, kv, vv, rfl, D⟩ := dct_at hr rp el
    obtain rfl : v = .ref a := ru
    have ea := exact_at I.hok D.at_
    exact ⟨⟨o, ea, D.d.1.1⟩, fun b eb => by cases eb; exact ⟨o, ea, D.d.1.2.1⟩⟩
  · cases e
def boxL (w : W) (h : MH) : Option (Nat × List W) := match w with
  | .ref n => match h.get n with
    | some (.lst ws) => some (n, ws)
    | _ => none
  | _ => none
theorem box_at {T : Tie} {h : MH} {H : Hp} {w : W} {v : V} {n : Nat} {ws : List W} (hr : Hrel G T h H) (rp : Rep G T H w v) (e : boxL w h = some (n, ws)) : ∃ a vs, v = .ref a /\ T.ρ n = some a /\ h.get n = some (.lst ws) /\ H a = some (.lst vs) /\ Reps G T H ws vs := by
  unfold boxL at e
  split at e
  · split at e
    · rename_i e2
      cases e
      obtain ⟨a, ea, vs, q, r⟩ := hr.obj _ _ e2
      unfold Rep at rp
      exact ⟨a, vs, rp.2 a ea, ea, e2, q, r⟩
    · cases e
  · cases e
theorem box_lst {T : Tie} {h : MH} {H : Hp} {n : Nat} {a : Addr} {ws ws' : List W} {vs : List V} (hr : Hrel G T h H) (e : h.get n = some (.lst ws)) (ea : T.ρ n = some a) (r : Reps G T H ws' vs) : Hrel G T (h.set n (.lst ws')) (upd H a (.lst vs)) /\ Ex T T H (upd H a (.lst vs)) :=
  box_set hr e ea ⟨vs, upd_same, reps_upd hr.ok ea r⟩
def fAppend : FMe := fun w xs h => match xs with
  | [y] => match boxL w h with
    | some (n, ws) => match Nat.blt ws.length 16777216 with
      | true => .ok .non (h.set n (.lst (ws ++ [y])))
      | false => .stuck
    | none => .stuck
  | _ => .stuck
theorem mt_appendW : MtR X "list.append" (rM (kt X adr) fAppend) := by
  intro pins s σ H x xs v us Q I rx rxs ⟨T, h, w, ws, w', h', hr, rp, rs, e, q⟩
  unfold fAppend at e
  split at e
  · split at e
    · rename_i n zs eb
      split at e
      · rename_i lt
        cases e
        obtain ⟨y', rfl, ry⟩ := reps1 rs
        obtain ⟨a, vs, rfl, ea, eg, qa, r⟩ := box_at hr rp eb
        have l := blt lt
        obtain ⟨b1, b2⟩ := box_lst hr eg ea (r.append (.cons ry .nil))
        exact mt_append pins s σ H _ _ v us Q I rx rxs ⟨a, vs, y', rfl, rfl, qa, by rw [<- r.length, sizeLine_eq]; exact l, q T _ _ b1 b2 (by unfold Rep; rfl)⟩
      · cases e
    · cases e
  · cases e
def idxW (f : W -> W -> Option Bool) (x : W) : List W -> Nat -> Option Nat
  | [], _ => none
  | y :: r, i => match f y x with
    | some true => some i
    | some false => idxW f x r (i + 1)
    | none => none
def fIndex : FMe := fun w xs h => match xs with
  | [y] => match lstOf w h with
    | some ws => match winL (weq 30) y ws with
      | some _ => match lenLe ws.length with
        | true => match idxW (weq 30) y ws 0 with
          | some i => .ok (.int i) h
          | none => .stuck
        | false => .stuck
      | none => .stuck
    | none => .stuck
  | _ => .stuck
theorem idxW_is {f : W -> W -> Option Bool} {x : W} : ∀ {ws : List W} {i j : Nat}, idxW f x ws i = some j -> ∃ k y, j = i + k /\ ws[k]? = some y /\ f y x = some true /\ ∀ m z, m < k -> ws[m]? = some z -> f z x = some false
  | [], i, j, h => by cases h
  | y :: r, i, j, h => by
    unfold idxW at h
    split at h
    · rename_i e
      cases h
      exact ⟨0, y, rfl, rfl, e, fun m z hm => absurd hm (Nat.not_lt_zero m)⟩
    · rename_i e
      obtain ⟨k, z, e1, e2, e3, e4⟩ := idxW_is h
      refine ⟨k + 1, z, by omega, by simpa using e2, e3, fun m u hm hu => ?_⟩
      cases m with
      | zero => simp at hu; subst hu; exact e
      | succ m => exact e4 m u (by omega) (by simpa using hu)
    · cases h
theorem mt_indexW (hu : X.A.units + 64 < cLine) : MtR X "list.index" (rM (kt X adr) fIndex) := by
  intro pins s σ H x xs v us Q I rx rxs ⟨T, h, w, ws, w', h', hr, rp, rs, e, q⟩
  have hu2 : X.A.in1.units + 30 < cLine := by show X.A.units + 1 + 30 < cLine; omega
  unfold fIndex at e
  split at e
  · rename_i y
    split at e
    · rename_i zs el
      split at e
      · rename_i k ek
        split at e
        · rename_i ll
          split at e
          · rename_i i ei
            cases e
            obtain ⟨y', rfl, ry⟩ := reps1 rs
            obtain ⟨uy, rfl, ruy⟩ := rxs.one
            obtain ⟨a, vs, rfl, qa, r⟩ := lst_at hr rp el
            obtain rfl : v = .ref a := rx
            obtain ⟨_, its, n, rv, p⟩ := I.hok _ _ qa
            obtain ⟨j, z, ej, ez, et, ef⟩ := idxW_is ei
            have ei' : i = j := by omega
            subst ei'
            obtain ⟨i1, _⟩ := in_items (G := kt X adr) I.hok hu2 ry ruy rv r ek (ansW (kt X adr) T H 30 y) (ansW_is I.hok)
            obtain ⟨z', ez', rz'⟩ := r.get ez
            obtain ⟨uz, euz, ruz⟩ := rv.get ez'
            have hj : i < its.toArray.size := by
              have := (List.getElem?_eq_some_iff.mp euz).1
              simpa using this
            have l1 := r.length.trans rv.length
            have l2 := lenLe_iff ll
            have at_ : ∀ m (hm : m < its.toArray.size) zz kk, zs[m]? = some zz -> weq 30 zz y = some kk -> ansW (kt X adr) T H 30 y its.toArray[m] = kk := fun m hm zz kk e1 e2 => by
              obtain ⟨v1, e3, r3⟩ := r.get e1
              obtain ⟨u1, e4, r4⟩ := rv.get e3
              have : its.toArray[m] = u1 := by
                have hm' : m < its.length := by simpa using hm
                have := List.getElem?_eq_getElem hm'
                rw [e4] at this
                simpa using this.symm
              rw [this]
              exact ansW_is I.hok _ _ _ _ r3 r4 e2
            refine call_meets PySem.F.slot_list_index ⟨_, p, rfl⟩ PySem.F.entry_list_index (PySem.F.args_list_index_2 _ _)
              (SeqAt.list_indexAt a its.toArray n none #[] uy (ansW (kt X adr) T H 30 y) i hj (by rw [sizeLine_eq] at l2; have : its.toArray.size = its.length := by simp
                                                                                                  omega) ?_ ?_) ⟨p, fun u hm => i1 u (by simpa using hm), ?_⟩
            · exact at_ i hj z true ez et
            · intro m hm hmi
              have hm' : m < zs.length := by
                have : m < its.length := by simpa using hm
                omega
              have e1 : zs[m]? = some zs[m] := List.getElem?_eq_getElem hm'
              exact at_ m hm _ false e1 (ef m _ hmi e1)
            · exact ⟨.int (i : Nat), H, I.tok _, ⟨_, rfl⟩, q T H _ hr (Ex.rfl' hr.ok) (by unfold Rep; rfl)⟩
          · cases e
        · cases e
      · cases e
    · cases e
  · cases e
def fGet : FMe := fun w xs h => match dctOf w h with
  | some (ks, vs) => match xs with
    | [k] => match keyFit k ks with
      | true => match dfind k ks vs with
        | some z => .ok z h
        | none => .ok .non h
      | false => .stuck
    | [k, d] => match keyFit k ks with
      | true => match dfind k ks vs with
        | some z => .ok z h
        | none => .ok d h
      | false => .stuck
    | _ => .stuck
  | none => .stuck
theorem found_getD {T : Tie} {H : Hp} {o : Option W} {u : Option Value} {d : W} {vd : V} {ud : Value} (f : Found G T H o u) (rd : Rep G T H d vd) (rud : RelV vd ud) : ∃ v, RelV v (u.getD ud) /\ Rep G T H (o.getD d) v := by
  cases o with
  | none => have e : u = none := f; rw [e]; exact ⟨vd, rud, rd⟩
  | some w => obtain ⟨v, x, e, r1, r2⟩ := f; rw [e]; exact ⟨v, r1, r2⟩
theorem mt_getW (hu : X.A.units + 64 < cLine) : MtR X "dict.get" (rM (kt X adr) fGet) := by
  intro pins s σ H x xs v us Q I rx rxs ⟨T, h, w, ws, w', h', hr, rp, rs, e, q⟩
  unfold fGet at e
  split at e
  · rename_i ks vs ed
    obtain ⟨a, o, kv, vv, rfl, D⟩ := dct_at hr rp ed
    obtain rfl : v = .ref a := rx
    split at e
    · rename_i k
      split at e
      · rename_i fit
        obtain ⟨vk, rfl, rk⟩ := reps1 rs
        obtain ⟨uk, rfl, ruk⟩ := rxs.one
        have e' : w' = (dfind k ks vs).getD .non /\ h' = h := by
          split at e
          · rename_i z ez; cases e; rw [ez]; exact ⟨rfl, rfl⟩
          · rename_i ez; cases e; rw [ez]; exact ⟨rfl, rfl⟩
        obtain ⟨rfl, rfl⟩ := e'
        have fin : ∀ (u : Option Value) (s' : Shared), Inv X pins σ H s' -> Found (kt X adr) T H (dfind k ks vs) u -> EP X pins σ Q (u.getD .none) s' := fun u s' I' f => by
          obtain ⟨v, r1, r2⟩ := found_getD f (d := .non) (vd := .non) (ud := .none) (by unfold Rep; rfl) rfl
          exact ⟨v, H, I', r1, q T H v hr (Ex.rfl' hr.ok) r2⟩
        rcases D.split (G := kt X adr) rfl rfl I.hok fit rk ruk with ⟨κ, kl, us, hκ, hkl, nd, rv, ln, ki, dd⟩ | ⟨κ, kl, us, b, bs, hκ, hkl, nd, rv, ln, ln2, ekv, rfl, rfl, ki, dd⟩
        · exact call_meetsIn PySem.F.slot_dict_get dd.typeIs PySem.F.entry_dict_get (PySem.F.args_dict_get_2 _ _) (meets_dict_get (mixKind X.prog X.w) a ki D.sm) ⟨_, dd.mapOf, fin _ _ (I.tok _) (look_S hκ hkl D.rv rv D.len)⟩
        · exact call_meetsIn PySem.F.slot_dict_get dd.typeIs PySem.F.entry_dict_get (PySem.F.args_dict_get_2 _ _) (meetsH_dict_get (nestedKind X.prog X.w) a b D.sm) ⟨room8 hu, κ, _, ki, dd, fin _ _ (I.tok _) (look_T hκ hkl D.rv rv D.len ln2)⟩
      · cases e
    · rename_i k d
      split at e
      · rename_i fit
        obtain ⟨vk, vd, rfl, rk, rd⟩ := reps2 rs
        obtain ⟨uk, ud, rfl, ruk, rud⟩ := Vals.two rxs
        have e' : w' = (dfind k ks vs).getD d /\ h' = h := by
          split at e
          · rename_i z ez; cases e; rw [ez]; exact ⟨rfl, rfl⟩
          · rename_i ez; cases e; rw [ez]; exact ⟨rfl, rfl⟩
        obtain ⟨rfl, rfl⟩ := e'
        have fin : ∀ (u : Option Value) (s' : Shared), Inv X pins σ H s' -> Found (kt X adr) T H (dfind k ks vs) u -> EP X pins σ Q (u.getD ud) s' := fun u s' I' f => by
          obtain ⟨v, r1, r2⟩ := found_getD f rd rud
          exact ⟨v, H, I', r1, q T H v hr (Ex.rfl' hr.ok) r2⟩
        rcases D.split (G := kt X adr) rfl rfl I.hok fit rk ruk with ⟨κ, kl, us, hκ, hkl, nd, rv, ln, ki, dd⟩ | ⟨κ, kl, us, b, bs, hκ, hkl, nd, rv, ln, ln2, ekv, rfl, rfl, ki, dd⟩
        · exact call_meetsIn PySem.F.slot_dict_get dd.typeIs PySem.F.entry_dict_get (PySem.F.args_dict_get_3 _ _ _) (meets_dict_get_default (mixKind X.prog X.w) a ki D.sm ud) ⟨_, dd.mapOf, fin _ _ (I.tok _) (look_S hκ hkl D.rv rv D.len)⟩
        · exact call_meetsIn PySem.F.slot_dict_get dd.typeIs PySem.F.entry_dict_get (PySem.F.args_dict_get_3 _ _ _) (meetsH_dict_get_default (nestedKind X.prog X.w) a b D.sm ud) ⟨room8 hu, κ, _, ki, dd, fin _ _ (I.tok _) (look_T hκ hkl D.rv rv D.len ln2)⟩
      · cases e
    · cases e
  · cases e
end Mi
end
section
namespace Mi
open PySem PySem.Spec PyProof.Rows L2 PySem.W
variable {G : Kt} {X : Cx} {adr : Ad} {Y : WX}
mutual
def toD : W -> PyData
  | .bl b => .bool b
  | .int i => .int i
  | .str s => .str s
  | .tup ws => .tuple (toDs ws)
  | .lst ws => .list (toDs ws)
  | _ => .none
def toDs : List W -> List PyData
  | [] => []
  | x :: r => toD x :: toDs r
end
def allN (f : W -> Bool) : List W -> Bool
  | [] => true
  | x :: r => match f x with
    | true => allN f r
    | false => false
def plainN : Nat -> W -> Bool
  | 0, _ => false
  | n + 1, w => match w with
    | .non => true
    | .bl _ => true
    | .int _ => true
    | .str _ => true
    | .tup ws => allN (plainN n) ws
    | .lst ws => allN (plainN n) ws
    | _ => false
theorem toDs_map : ∀ ws, toDs ws = ws.map toD
  | [] => rfl
  | x :: r => by rw [toDs, toDs_map r]; rfl
theorem allN_is {f : W -> Bool} : ∀ {ws : List W}, allN f ws = true -> ∀ w ∈ ws, f w = true
  | [], _, w, h => (nomatch h)
  | x :: r, e, w, h => by
    unfold allN at e
    split at e
    · rename_i ex
      rcases List.mem_cons.mp h with z | z
      · rw [z]; exact ex
      · exact allN_is e w z
    · cases e
theorem reads_allW {T : Tie} {H : Hp} {h : Heap} {n : Nat} (ih : ∀ w v u, plainN n w = true -> Rep G T H w v -> RelV v u -> ∃ as, Reads h u (toD w) as) : ∀ {ws : List W} {vs : List V} {us : List Value}, allN (plainN n) ws = true -> Reps G T H ws vs -> Vals vs us -> ∃ as, ReadsAll h us (toDs ws) as
  | [], vs, us, _, r, rv => by unfold Reps at r; subst r; cases rv; exact ⟨_, .nil⟩
  | x :: ws, vs, us, e, r, rv => by
    unfold Reps at r
    obtain ⟨v, s, rfl, h1, r⟩ := r
    unfold allN at e
    split at e
    · rename_i ex
      cases rv with
      | cons q1 q2 =>
        obtain ⟨a, ra⟩ := ih x v _ ex h1 q1
        obtain ⟨b, rb⟩ := reads_allW ih e r q2
        exact ⟨_, .cons ra rb⟩
    · cases e
theorem reads_W {P : Program} {wo : World} {T : Tie} {H : Hp} {h : Heap} (ok : HOk P wo H h) : ∀ (n : Nat) (w : W) (v : V) (u : Value), plainN n w = true -> Rep G T H w v -> RelV v u -> ∃ as, Reads h u (toD w) as
  | 0, _, _, _, e, _, _ => by cases e
  | n + 1, w, v, u, e, r, ru => by
    cases w with
    | non => rw [rep_non r] at ru; cases ru; exact ⟨_, .none⟩
    | bl b => rw [rep_bl r] at ru; cases ru; exact ⟨_, .bool b⟩
    | int b => rw [rep_int r] at ru; obtain ⟨t, rfl⟩ := ru; exact ⟨_, .int b t⟩
    | str b => rw [rep_str r] at ru; obtain ⟨t, rfl⟩ := ru; exact ⟨_, .str b t⟩
    | tup ws =>
      obtain ⟨a, vs, rfl, q, rs⟩ := tup_at r
      obtain rfl : u = .ref a := ru
      obtain ⟨_, its, rv, o, h1, h2, m, h3⟩ := ok _ _ q
      obtain ⟨as, ra⟩ := reads_allW (fun w v u => reads_W ok n w v u) (show allN (plainN n) ws = true from e) rs rv
      exact ⟨_, .tuple h1 h2 h3 (by simpa [toD] using ra)⟩
    | lst ws =>
      unfold Rep at r
      obtain ⟨a, vs, rfl, _, q, rs⟩ := r
      obtain rfl : u = .ref a := ru
      obtain ⟨_, its, m, rv, h1⟩ := ok _ _ q
      obtain ⟨as, ra⟩ := reads_allW (fun w v u => reads_W ok n w v u) (show allN (plainN n) ws = true from e) rs rv
      exact ⟨_, .list h1 rfl rfl (by simpa [toD] using ra)⟩
    | _ => cases e
theorem depth_W : ∀ (n : Nat) (w : W), plainN n w = true -> (toD w).depth <= n
  | 0, _, e => by cases e
  | n + 1, w, e => by
    have dd : ∀ ws : List W, allN (plainN n) ws = true -> PyData.depthAll (toDs ws) <= n := fun ws => by
      induction ws with
      | nil => intro _; simp [toDs, PyData.depthAll]
      | cons x r ih =>
        intro e
        unfold allN at e
        split at e
        · rename_i ex
          have h1 := depth_W n x ex
          have h2 := ih e
          simp only [toDs, PyData.depthAll]
          omega
        · cases e
    cases w with
    | non => simp [toD, PyData.depth]
    | bl b => simp [toD, PyData.depth]
    | int b => simp [toD, PyData.depth]
    | str b => simp [toD, PyData.depth]
    | tup ws => have := dd ws e; simp only [toD, PyData.depth]; omega
    | lst ws => have := dd ws e; simp only [toD, PyData.depth]; omega
    | _ => cases e
mutual
def sameSh : PyData -> PyData -> Bool
  | .bool _, d => match d with | .bool _ => true | _ => false
  | .int _, d => match d with | .int _ => true | _ => false
  | .str _, d => match d with | .str _ => true | _ => false
  | .list xs, d => match d with | .list ys => sameShs xs ys | _ => false
  | .tuple xs, d => match d with | .tuple ys => sameShs xs ys | _ => false
  | _, _ => false
def sameShs : List PyData -> List PyData -> Bool
  | [], ys => match ys with | [] => true | _ => false
  | x :: xs, ys => match ys with
    | y :: ys => match sameSh x y with
      | true => sameShs xs ys
      | false => false
    | [] => false
end
mutual
theorem sameSh_alike : ∀ (a b c : PyData), sameSh a b = true -> sameSh a c = true -> PySem.W.alike b c = true
  | .bool _, b, c, h, k => by cases b <;> cases h; cases c <;> cases k; rfl
  | .int _, b, c, h, k => by cases b <;> cases h; cases c <;> cases k; rfl
  | .str _, b, c, h, k => by cases b <;> cases h; cases c <;> cases k; rfl
  | .list xs, b, c, h, k => by
    cases b with
    | list ys =>
      cases c with
      | list zs => exact sameShs_alike xs ys zs h k
      | _ => cases k
    | _ => cases h
  | .tuple xs, b, c, h, k => by
    cases b with
    | tuple ys =>
      cases c with
      | tuple zs => exact sameShs_alike xs ys zs h k
      | _ => cases k
    | _ => cases h
  | .none, _, _, h, _ => by cases h
  | .dict _, _, _, h, _ => by cases h
theorem sameShs_alike : ∀ (a b c : List PyData), sameShs a b = true -> sameShs a c = true -> PySem.W.alikeAll b c = true
  | [], b, c, h, k => by
    cases b with
    | nil => exact PySem.W.alikeAll.eq_2 c
    | cons _ _ => cases h
  | x :: xs, b, c, h, k => by
    cases b with
    | nil => cases h
    | cons y ys =>
      cases c with
      | nil => cases k
      | cons z zs =>
        simp only [sameShs] at h k
        split at h
        · rename_i h1
          split at k
          · rename_i k1
            rw [PySem.W.alikeAll, sameSh_alike x y z h1 k1, sameShs_alike xs ys zs h k]
            rfl
          · cases k
        · cases h
end
def allD (f : PyData -> Bool) : List PyData -> Bool
  | [] => true
  | x :: r => match f x with
    | true => allD f r
    | false => false
theorem allD_is {f : PyData -> Bool} : ∀ {ws : List PyData}, allD f ws = true -> ∀ w ∈ ws, f w = true
  | [], _, w, h => (nomatch h)
  | x :: r, e, w, h => by
    unfold allD at e
    split at e
    · rename_i ex
      rcases List.mem_cons.mp h with z | z
      · rw [z]; exact ex
      · exact allD_is e w z
    · cases e
def tupNe : PyData -> Bool
  | .tuple (_ :: _) => true
  | _ => false
def notTN : PyData -> Bool
  | .tuple _ => false
  | .none => false
  | _ => true
def ordOk (ds : List PyData) : Bool := match ds with
  | [] => true
  | d :: r => match (match allD (sameSh d) (d :: r) with
    | true => true
    | false => allD (fun x => allD (PySem.W.alike x) ds) ds) with
    | true => match allD tupNe ds with
      | true => true
      | false => allD notTN ds
    | false => false
theorem ordOk_is {ds : List PyData} (h : ordOk ds = true) : AllAlike ds /\ Sortable ds := by
  unfold ordOk at h
  split at h
  · exact ⟨fun d hd => (nomatch hd), .inl fun d hd => (nomatch hd)⟩
  · rename_i d r
    split at h
    · rename_i h1
      refine ⟨?_, ?_⟩
      · split at h1
        · rename_i h2
          exact fun a ha b hb => sameSh_alike d a b (allD_is h2 a ha) (allD_is h2 b hb)
        · exact fun a ha b hb => allD_is (allD_is h1 a ha) b hb
      · split at h
        · rename_i h2
          refine .inl fun a ha => ?_
          have := allD_is h2 a ha
          unfold tupNe at this
          split at this
          · exact ⟨_, _, rfl⟩
          · cases this
        · refine .inr fun a ha => ?_
          have := allD_is h a ha
          unfold notTN at this
          split at this
          · cases this
          · cases this
          · rename_i n1 n2
            exact ⟨n2, n1⟩
    · cases h
def ltN : List Nat -> List Nat -> Bool
  | [], [] => false
  | [], _ :: _ => true
  | _ :: _, [] => false
  | x :: r, y :: t => match Nat.blt x y with
    | true => true
    | false => match Nat.beq x y with
      | true => ltN r t
      | false => false
theorem ltN_is : ∀ a b : List Nat, ltN a b = decide (a < b)
  | [], [] => by simp [ltN]
  | [], _ :: _ => by simp [ltN]
  | _ :: _, [] => by simp [ltN]
  | x :: r, y :: t => by
    unfold ltN
    cases e : Nat.blt x y with
    | true =>
      have := blt e
      simp [List.cons_lt_cons_iff, this]
    | false =>
      have h1 : ¬ x < y := fun z => by rw [Nat.blt, Nat.ble_eq_true_of_le z] at e; cases e
      cases q : Nat.beq x y with
      | true =>
        have : x = y := Nat.eq_of_beq_eq_true q
        subst this
        simp [List.cons_lt_cons_iff, ltN_is r t]
      | false =>
        have h2 : x ≠ y := fun z => by rw [z, Nat.beq_refl] at q; cases q
        simp [List.cons_lt_cons_iff, h1, h2]
def tokLt1 : Int ⊕ List Nat -> Int ⊕ List Nat -> Bool
  | .inl a, y => match y with
    | .inl b => decide (a < b)
    | .inr _ => true
  | .inr a, y => match y with
    | .inl _ => false
    | .inr b => ltN a b
theorem tokLt1_is (a b : Int ⊕ List Nat) : tokLt1 a b = itemLt a b := by
  cases a <;> cases b <;> try rfl
  show ltN _ _ = decide _
  rw [ltN_is]
def tokLt : List (Int ⊕ List Nat) -> List (Int ⊕ List Nat) -> Bool
  | [], y => match y with
    | [] => false
    | _ :: _ => true
  | x :: r, y => match y with
    | [] => false
    | y :: t => match tokLt1 x y with
      | true => true
      | false => match tokLt1 y x with
        | true => false
        | false => tokLt r t
theorem tokLt_is : ∀ a b, tokLt a b = PyProof.Rows.lexLt itemOrd a b
  | [], [] => rfl
  | [], _ :: _ => rfl
  | _ :: _, [] => rfl
  | x :: r, y :: t => by
    unfold tokLt PyProof.Rows.lexLt
    dsimp only
    rw [tokLt1_is, tokLt1_is, tokLt_is r t]
    cases itemLt x y <;> cases itemLt y x <;> rfl
abbrev KW := List (Int ⊕ List Nat) × W
def insK (x : KW) : List KW -> List KW
  | [] => [x]
  | y :: r => match tokLt y.1 x.1 with
    | true => y :: insK x r
    | false => x :: y :: r
def sortK : List KW -> List KW
  | [] => []
  | x :: r => insK x (sortK r)
def sndK : List KW -> List W
  | [] => []
  | x :: r => x.2 :: sndK r
def keyK : List W -> List KW
  | [] => []
  | x :: r => (keyToks (toD x), x) :: keyK r
def sortW (ws : List W) : List W := sndK (sortK (keyK ws))
section
variable {α : Type} (le : α -> α -> Bool)
def insG (x : α) : List α -> List α
  | [] => [x]
  | y :: r => match le x y with
    | true => x :: y :: r
    | false => y :: insG x r
def sortG : List α -> List α
  | [] => []
  | x :: r => insG le x (sortG r)
theorem mem_insG {x z : α} : ∀ {l : List α}, z ∈ insG le x l -> z = x \/ z ∈ l
  | [], h => by simp [insG] at h; exact .inl h
  | y :: r, h => by
    unfold insG at h
    split at h
    · rcases List.mem_cons.mp h with q | q
      · exact .inl q
      · exact .inr q
    · rcases List.mem_cons.mp h with q | q
      · exact .inr (by simp [q])
      · exact (mem_insG q).imp id fun q => List.mem_cons_of_mem _ q
variable (trans : ∀ x y z, le x y = true -> le y z = true -> le x z = true) (total : ∀ x y, (le x y || le y x) = true)
include trans total
theorem insG_pair {x : α} : ∀ {l : List α}, l.Pairwise (fun x y => le x y = true) -> (insG le x l).Pairwise (fun x y => le x y = true)
  | [], _ => by simp [insG]
  | y :: r, h => by
    rw [List.pairwise_cons] at h
    unfold insG
    split
    · rename_i e
      rw [List.pairwise_cons, List.pairwise_cons]
      exact ⟨fun z hz => (List.mem_cons.mp hz).elim (fun q => by rw [q]; exact e) fun q => trans x y z e (h.1 z q), h⟩
    · rename_i e
      have yx : le y x = true := by
        have := total x y
        rw [e] at this
        simpa using this
      rw [List.pairwise_cons]
      exact ⟨fun z hz => (mem_insG le hz).elim (fun q => by rw [q]; exact yx) (h.1 z), insG_pair h.2⟩
theorem insG_filter {x c : α} : ∀ {l : List α}, l.Pairwise (fun x y => le x y = true) -> (insG le x l).filter (Srt.alike le c) = (x :: l).filter (Srt.alike le c)
  | [], _ => rfl
  | y :: r, h => by
    rw [List.pairwise_cons] at h
    unfold insG
    split
    · rfl
    · rename_i e
      have ih := insG_filter (x := x) (c := c) h.2
      rw [List.filter_cons, ih, List.filter_cons, List.filter_cons, List.filter_cons]
      by_cases q : Srt.alike le c x = true
      · have q' : Srt.alike le c y = false := by
          cases z : Srt.alike le c y with
          | false => rfl
          | true =>
            unfold Srt.alike at q z
            rw [Bool.and_eq_true] at q z
            exact absurd (trans x c y q.2 z.1) (by rw [e]; exact Bool.false_ne_true)
        simp [q, q']
      · simp [q]
theorem sortG_pair : ∀ l : List α, (sortG le l).Pairwise (fun x y => le x y = true)
  | [] => List.Pairwise.nil
  | x :: r => insG_pair le trans total (sortG_pair r)
theorem sortG_is (l : List α) : sortG le l = l.mergeSort le := by
  refine Srt.the le trans total (sortG_pair le trans total l) fun z => ?_
  induction l with
  | nil => rfl
  | cons x r ih =>
    rw [sortG, insG_filter le trans total (sortG_pair le trans total r), List.filter_cons, ih, List.filter_cons]
end
theorem insK_is (x : W) : ∀ l : List W, sndK (insK (keyToks (toD x), x) (keyK l)) = insG (dataLe false toD) x l /\ insK (keyToks (toD x), x) (keyK l) = keyK (insG (dataLe false toD) x l)
  | [] => ⟨rfl, rfl⟩
  | y :: r => by
    have ih := insK_is x r
    have e : dataLe false toD x y = !tokLt (keyToks (toD y)) (keyToks (toD x)) := by
      rw [tokLt_is]; rfl
    unfold keyK insK insG
    dsimp only
    rw [e]
    cases tokLt (keyToks (toD y)) (keyToks (toD x)) with
    | true => exact ⟨by show y :: _ = y :: _; rw [ih.1], by show _ :: _ = _ :: _; rw [ih.2]⟩
    | false => exact ⟨by show x :: y :: sndK (keyK r) = x :: y :: r; rw [snd_key], rfl⟩
where
  snd_key : ∀ {l : List W}, sndK (keyK l) = l
  | [] => rfl
  | x :: r => by rw [keyK, sndK, snd_key]
theorem sortK_is : ∀ l : List W, sortK (keyK l) = keyK (sortG (dataLe false toD) l)
  | [] => rfl
  | x :: r => by rw [keyK, sortK, sortK_is r, (insK_is x _).2, sortG]
theorem sortW_is (ws : List W) : sortW ws = ws.mergeSort (dataLe false toD) := by
  have t := sortLe_total (listOrd itemOrd) false (fun b : W => keyToks (toD b))
  unfold sortW
  rw [sortK_is, insK_is.snd_key, sortG_is (dataLe false toD) t.trans (fun x y => by rcases t.total x y with h | h <;> simp [dataLe, h])]
def wSorted : FA := fun ws h => match ws with
  | [x] => match lstOf x h with
    | some ys => match allN (plainN 20) ys with
      | true => match ordOk (toDs ys) with
        | true => match lenLe ys.length with
          | true => some (.lst (sortW ys))
          | false => none
        | false => none
      | false => none
    | none => none
  | _ => none
theorem each_of {R : Value -> W -> Prop} : ∀ {ws : List W} {us : List Value}, ws.length = us.length -> (∀ (i : Nat) w u, ws[i]? = some w -> us[i]? = some u -> R u w) -> EachIs R us ws
  | [], [], _, _ => .nil
  | [], _ :: _, h, _ => by cases h
  | _ :: _, [], h, _ => by cases h
  | x :: ws, u :: us, h, f => .cons (f 0 x u rfl rfl) (each_of (by simpa using h) fun i w v h1 h2 => f (i + 1) w v (by simpa using h1) (by simpa using h2))
theorem each_back {T : Tie} {H : Hp} : ∀ {ws : List W} {us : List Value}, EachIs (fun u w => ∃ v, RelV v u /\ Rep G T H w v) us ws -> ∃ vs, Vals vs us /\ Reps G T H ws vs
  | [], _, .nil => ⟨[], .nil, .nil⟩
  | x :: ws, _, .cons h r => by
    obtain ⟨v, r1, r2⟩ := h
    obtain ⟨vs, a, b⟩ := each_back r
    exact ⟨v :: vs, .cons r1 a, .cons r2 b⟩
theorem mc_sorted (hu : X.A.units + 64 < cLine) : MC X adr (.builtin "sorted") wSorted := by
  intro pins s σ H vs us Q I rv ⟨T, h, ws, w, hr, rs, e, q⟩
  unfold wSorted at e
  split at e
  · split at e
    · rename_i ys ey
      split at e
      · rename_i pl
        split at e
        · rename_i oo
          split at e
          · rename_i ll
            cases e
            obtain ⟨v, rfl, rp⟩ := reps1 rs
            obtain ⟨u, rfl, ru⟩ := rv.one
            obtain ⟨a, vs, rfl, qa, r⟩ := lst_at hr rp ey
            obtain rfl : u = .ref a := ru
            obtain ⟨hz, its, n, rvs, p⟩ := I.hok _ _ qa
            obtain ⟨al, so⟩ := ordOk_is oo
            rw [toDs_map] at al so
            have l1 := r.length.trans rvs.length
            have at_ : ∀ (i : Nat) w u, ys[i]? = some w -> its[i]? = some u -> ∃ v, RelV v u /\ Rep (kt X adr) T H w v := fun i w u h1 h2 => by
              obtain ⟨v, e1, r1⟩ := r.get h1
              obtain ⟨u', e2, r2⟩ := rvs.get e1
              rw [h2] at e2
              cases e2
              exact ⟨v, r2, r1⟩
            have e1 : EachIs (fun u w => ∃ v, RelV v u /\ Rep (kt X adr) T H w v) its ys := each_of l1 at_
            have e2 : EachIs (fun u w => ∃ as, Reads s.heap u (toD w) as) its ys := each_of l1 fun i w u h1 h2 => by
              obtain ⟨v, r1, r2⟩ := at_ i w u h1 h2
              exact reads_W I.hok 20 w v u (allN_is pl w (List.mem_of_getElem? h1)) r2 r1
            refine sorted_data (show s.heap.IsList a its.toArray from ⟨_, p, rfl, _, rfl⟩) e1 e2 al so (lenLe_iff ll) (fun w hw => by have := depth_W 20 w (allN_is pl w hw); omega) fun out hol eo => ?_
            rw [<- sortW_is] at eo
            obtain ⟨vs', rv', rp'⟩ := each_back eo
            obtain ⟨ep, he'⟩ := PyProof.Rows.sortedAll_at s.heap its out.toArray
            have hl : vs'.length <= sizeLine := by rw [rv'.length, hol]; exact lenLe_iff ll
            exact ⟨.ref _, upd H (s.heap.objs.size + 1) (.lst vs'), I.laid (t' := s.toks) (fun _ _ => PyProof.Rows.sortedAll_old) (Nat.le_succ _) ⟨hl, out, ep, rv', he'⟩, rfl, Hands.lst hr rp' q _ (I.hok.fresh (Nat.le_succ _))⟩
          · cases e
        · cases e
      · cases e
    · cases e
  · cases e
end Mi
end
section
namespace Mi
open PySem PySem.Spec PyProof.Rows L2
variable {G : Kt} {X : Cx} {adr : Ad} {Y : WX}
section
variable {k : Nat} {f : Addr} {fd : FuncData} {ps ks : List Str} {mf : FM} {x : Str} {p pos : Pos} {e : Expr} {es : List Expr} {as az : AM} {kws : List Keyword}
def aft (n : Nat) (fr : Bool) : W -> MH -> R W := fun v h' => match v with
  | .non => match fr with
    | false => .ok (.ref n) h'
    | true => match h'.get n with
      | some o => .ok o.toW (h'.del n)
      | none => .stuck
  | _ => .stuck
theorem run_mkG {c : Nat} {fr : Bool} {pins : List (Addr × Obj)} {σ : Sl} {H : Hp} {s : Shared} {Q : VK} {us0 us : List Value} {kw : List (Str × Value)} {vs : List V} {T : Tie} {h : MH} {ws : List W} (M : Mk X.K (adr c) f)
    (F : FnOk X.prog X.w X.K X.mg X.base (L2N.CX X.prog X.w) k f fd ps (spM (kt X adr) mf)) (hr : Room (k + 1) X.A) (hb : ∀ s1 : Shared, X.K.In s1.heap -> ∀ a : Addr, BindsTo s1 fd ⟨.ref a :: us0, kw⟩ (ps.zip (.ref a :: us)))
    (tk : L2N.Takes X Y) (I : Inv X pins σ H s) (r : Vals vs us) (hR : Hrel (kt X adr) T h H) (rp : Reps (kt X adr) T H ws vs)
    (q : ResV (kt X adr) Y T H σ ((mf (.ref h.nx :: ws) (h.new (.ins c [] []))).bind (aft h.nx fr)) Q) : wpAny (model X.prog X.w) X.A (call (.ref (adr c)) us0 kw) (EP X pins σ Q) X.xe s := by
  have hx : H (s.heap.objs.size + 1) = none := I.hok.fresh (Nat.le_succ _)
  have hdx : H s.heap.objs.size = none := I.hok.fresh (Nat.le_refl _)
  have nxd : s.heap.objs.size ≠ s.heap.objs.size + 1 := Nat.ne_of_lt (Nat.lt_succ_self _)
  have g1 : Grow H (upd H s.heap.objs.size (.own (s.heap.objs.size + 1))) := Grow.laid hdx
  have hR1 := hR.grow g1
  have x1 := Ex.grow hR.ok g1
  have hx1 : upd H s.heap.objs.size (.own (s.heap.objs.size + 1)) (s.heap.objs.size + 1) = none := by rw [upd_ne (Ne.symm nxd)]; exact hx
  have fdx : Fz (T.add (s.heap.objs.size + 1)) s.heap.objs.size := ⟨fun m z => by
    by_cases hm : m = T.nx
    · simp only [hm, if_true] at z
      exact nxd (Option.some.inj z).symm
    · simp only [hm, if_false] at z
      exact hR.ok.there m _ z hdx, fun z => hR.ok.hidT _ z hdx⟩
  obtain ⟨hR2, x2, r2⟩ := box_new (o := .ins c [] []) (ho := .ins (adr c) s.heap.objs.size []) hR1 hx1 fun _ => ⟨s.heap.objs.size, [], fdx, upd_same, by rw [upd_ne nxd, upd_same], rfl, Reps.nil⟩
  have x12 := x1.trans x2
  have I2 := Inv.made (C := adr c) I
  have hsp : spM (kt X adr) mf (.ref (s.heap.objs.size + 1) :: vs) (upd (upd H s.heap.objs.size (.own (s.heap.objs.size + 1))) (s.heap.objs.size + 1) (.ins (adr c) s.heap.objs.size []))
      (fun v H2 => v = .non /\ Q (.ref (s.heap.objs.size + 1)) H2) (fun cls d H' => Y cls d σ H') := by
    refine ⟨T.add (s.heap.objs.size + 1), .ref h.nx :: ws, h.new (.ins c [] []), hR2, Reps.cons r2 (reps_ex x12 _ _ rp), ?_⟩
    have q' := Res.ex q x12
    cases em : mf (.ref h.nx :: ws) (h.new (.ins c [] [])) with
    | ok v h' =>
      rw [em] at q'
      intro T' H' v' hr' x' rp'
      cases v with
      | non =>
        unfold Rep at rp'
        refine ⟨rp', ?_⟩
        have r3 := rep_ex x' _ _ r2
        cases fr with
        | false => exact q' T' H' _ hr' x' r3
        | true =>
          have q' : ResV (kt X adr) Y _ _ σ (match h'.get h.nx with
            | some o => .ok o.toW (h'.del h.nx)
            | none => .stuck) Q := q'
          cases eg : h'.get h.nx with
          | none => rw [eg] at q'; exact q'.elim
          | some o =>
            rw [eg] at q'
            obtain ⟨hr4, x4, r4⟩ := freeze hr' eg r3
            exact q' _ _ _ hr4 (x'.trans x4) r4
      | _ => exact q'.elim
    | exc x h' => rw [em] at q'; exact q'
    | stuck => rw [em] at q'; exact q'.elim
  have rr : Vals (V.ref (s.heap.objs.size + 1) :: vs) (Value.ref (s.heap.objs.size + 1) :: us) := .cons rfl r
  refine wpAny_call (make_map (f := f) I.kIn M.makes M.init (beq_iff_eq.mp M.fn) (codeAny_mono (F.run _ X.stack _ _ ⟨Value.ref (s.heap.objs.size + 1) :: us0, kw⟩ (Value.ref (s.heap.objs.size + 1) :: us) _ _ _ (hr.make (adr c) us0 kw)
    (I2.env0.make (adr c) us0 kw) (hb _ I2.kIn _) rr hsp) fun r s' hq' => ?_))
  cases r with
  | error e => exact tk e s' (L2N.XE.of_call I2 (fun _ _ _ z => z) hq')
  | ok fl =>
    cases fl with
    | ret u =>
      obtain ⟨v, H', I3, rv, ev, q3⟩ := I2.after hq'
      subst ev
      exact ⟨rv, ⟨V.ref (s.heap.objs.size + 1), H', I3, rfl, q3⟩⟩
    | next => exact False.elim hq'
    | brk => exact False.elim hq'
    | cont => exact False.elim hq'
def mMakeK (c n m : Nat) (mf : FM) (fr : Bool) (as az : AM) : EM := fun me h => (as me h).bind fun ws h => (az me h).bind fun zs h => match Nat.beq ws.length n, Nat.beq zs.length m with
  | true, true => (mf (.ref h.nx :: (ws ++ zs)) (h.new (.ins c [] []))).bind (aft h.nx fr)
  | _, _ => .stuck
def MK (X : Cx) (adr : Ad) (Y : WX) (kws : List Keyword) (m : AM) : Prop := PK X kws (rdA (kt X adr) Y m)
theorem mk_nil : MK X adr Y [] mNil := ⟨fun pos pins s σ H Q I q => pk_nil.run pos pins s σ H Q I (by
  obtain ⟨T, me, h, hr, he, q⟩ := q
  exact q T H [] hr (Ex.rfl' hr.ok) Reps.nil)⟩
theorem mk_cons {nm : Option Str} {kpos : Pos} {ma : EM} {mr : AM} (ha : ME X adr Y e ma) (hrr : MK X adr Y kws mr) : MK X adr Y (⟨nm, e, kpos⟩ :: kws) (mCons ma mr) := ⟨fun pos pins s σ H Q I q => (pk_cons ha hrr).run pos pins s σ H Q I (by
  obtain ⟨T, me, h, hr, he, q⟩ := q
  refine ⟨T, me, h, hr, he, Res.bind q fun w1 h1 _ T1 H1 v1 hr1 x1 rp1 q1 => ?_⟩
  refine ⟨T1, me, h1, hr1, he.ex x1, Res.bind q1 fun ws h2 _ T2 H2 vs hr2 x2 rp2 q2 => ?_⟩
  exact q2 T2 H2 _ hr2 (Ex.rfl' hr2.ok) (Reps.cons (rep_ex x2 _ _ rp1) rp2))⟩
theorem me_makeK {c n : Nat} {fr : Bool} (M : Mk X.K (adr c) f) (F : FnOk X.prog X.w X.K X.mg X.base (L2N.CX X.prog X.w) k f fd ps (spM (kt X adr) mf)) (hr : Room (k + 1) X.A) (hg : Gl X x) (hm : X.mg x = some (.ref (adr c)))
    (hb : KBn X.K fd ps (n + 1) ks (fun us ws => us ++ ws) (fun us ws => us ++ ws)) (tk : L2N.Takes X Y)
    (ha : MA X adr Y (e :: es) as) (hkw : MK X adr Y kws az) (hall : (backToKw pos (keywordEach kws X.env)).all (·.1.isSome) = true) (hks : (backToKw pos (keywordEach kws X.env)).filterMap (·.1) = ks) (hdb : (x == ("__debug__" : Str)) = false)
    (he : starEach (e :: es) X.env = (false, eval e X.env) :: starEach es X.env) (hpl : ((backTo pos (starEach (e :: es) X.env)).any (·.1) || (backToKw pos (keywordEach kws X.env)).any (·.1.isNone)) = false) :
    ME X adr Y (.Call (.Name x p) (e :: es) kws pos) (mMakeK c n ks.length mf fr as az) := by
  refine ⟨fun pins s σ H Q I ⟨T, me, h, hR, hE, q⟩ => ?_⟩
  refine wpAny_Call_Name_kw (ld_glob I hg hm ?_ hdb)
  refine PySem.W.callWith_KW (h₀ := X.base) I.ok.mod.kin M.kp hall (thn (ha.run pos pins s σ H (fun vs H1 => ∃ T1 h1 ws, Hrel (kt X adr) T1 h1 H1 /\ Erel (kt X adr) T1 me σ H1 /\ Reps (kt X adr) T1 H1 ws vs /\ ResV (kt X adr) Y T1 H1 σ _ Q) I
    ⟨T, me, h, hR, hE, Res.bind q fun ws h1 _ T1 H1 vs hr1 x1 rp q1 => ⟨T1, h1, ws, hr1, hE.ex x1, rp, q1⟩⟩) fun us s1 ⟨vs, H1, I1, r, T1, h1, ws, hr1, hE1, rp, q1⟩ => ?_) hpl he
  refine thn (hkw.run pos pins s1 σ H1 (fun zs H2 => ∃ T2 h2 xs, Hrel (kt X adr) T2 h2 H2 /\ Reps (kt X adr) T2 H2 ws vs /\ Reps (kt X adr) T2 H2 xs zs /\ ResV (kt X adr) Y T2 H2 σ _ Q) I1
    ⟨T1, me, h1, hr1, hE1, Res.bind q1 fun xs h2 _ T2 H2 zs hr2 x2 rp2 q2 => ⟨T2, h2, xs, hr2, reps_ex x2 _ _ rp, rp2, q2⟩⟩) fun wv s2 ⟨zs, H2, I2, rz, T2, h2, xs, hr2, rp1, rp2, q2⟩ => ⟨I2.kIn, ?_⟩
  rw [hks]
  cases n1 : Nat.beq ws.length n with
  | false => simp only [n1] at q2; exact q2.elim
  | true => cases n2 : Nat.beq xs.length ks.length with
    | false => simp only [n1, n2] at q2; exact q2.elim
    | true =>
      simp only [n1, n2] at q2
      have l1 : us.length = n := by rw [<- r.length, <- rp1.length]; exact Nat.eq_of_beq_eq_true n1
      have l2 : wv.length = ks.length := by rw [<- rz.length, <- rp2.length]; exact Nat.eq_of_beq_eq_true n2
      exact run_mkG (us := us ++ wv) M F hr (fun s1 hk a => hb.to s1 (.ref a :: us) wv hk (by rw [List.length_cons, l1]) l2) tk I2 (r.append rz) hr2 (rp1.append rp2) q2
end
end Mi
end
section
namespace Mi
open PySem PySem.Spec PyProof.Rows L2
variable {G : Kt} {X : Cx} {adr : Ad} {Y : WX}
end Mi
end
section
namespace Mi
open PySem PySem.Spec PyProof.Rows L2 GenW
variable {G : Kt} {X : Cx} {adr : Ad} {Y : WX}
section
variable {prog : Program} {w : World} {A : Around} {E : Value -> Shared -> Prop} {s : Shared}
end
abbrev NM := Me -> MH -> R (List W)
section
variable {e : Expr} {m : EM} {yp pos : Pos} {st : Stmt} {rest : List Stmt} {a : SM} {g : NM}
end
abbrev FG := List W -> MH -> R (List W)
section
variable {P : Program} {w : World} {K : PySem.W.Frag} {mg : Str -> Option Value} {base : Heap} {x qual : Str} {params : Arguments} {body : List Stmt} {scope : Scope} {dvs : List V} {kws : List (Str × V)} {f : Addr} {fd : FuncData} {N ps : List Str} {k np nl : Nat} {g : NM}
end
section
variable {k : Nat} {f : Addr} {fd : FuncData} {ps : List Str} {mf : FG} {dws : List W} {ds : List Value} {x nm : Str} {p p2 pos pos' : Pos} {e : Expr} {es : List Expr} {as : AM}
end
end Mi
end
section
namespace Mi
open PySem PySem.Spec PyProof.Rows L2
section
variable {prog : Program} {w : World} {A : Around} {E : Value -> Shared -> Prop} {s : Shared} {z TI TO i1 i2 : Addr} {fp1 fp2 : List Addr} {n1 n2 i : Nat} {P1 P2 : Nat -> Value -> Prop} {St1 St2 : Nat -> Heap -> Prop} {a1 a2 f0 : Value} {f1 : Bool}
end
variable {G : Kt} {X : Cx} {adr : Ad} {Y : WX}
section
variable {prog : Program} {w : World} {A : Around} {E : Value -> Shared -> Prop} {s : Shared}
end
end Mi
end
section
namespace Mi
open PySem PySem.Spec PyProof.Rows L2
variable {G : Kt} {X : Cx} {adr : Ad} {Y : WX}
section
variable {T : Tie} {H : Hp} {x x2 : W} {v v2 : V} {u u2 : Value} {ws ws2 : List W} {kn kn2 : Hp -> Prop} {o o2 : Obj} {It It2 : Addr -> Nat -> Heap -> Prop} {F F2 : List Addr} {Sr Sr2 : (Nat -> Value -> Prop) -> Heap -> Prop}
theorem nn {a b : Nat} (h : a < b \/ b < a) : a ≠ b := fun e => by omega
end
end Mi
end
section
namespace Mi
open PySem PySem.Spec PyProof.Rows L2
variable {G : Kt} {X : Cx} {adr : Ad} {Y : WX}
section
variable {prog : Program} {w : World} {A : Around} {E : Value -> Shared -> Prop} {s : Shared}
def Hit (prog : Program) (w : World) (A : Around) (s : Shared) (b : Addr) (es' : Array DictEntry) (e : DictEntry) (r : Bool) : Prop :=
  ((∀ (Q : Option Nat -> Shared -> Prop) (E : Value -> Shared -> Prop), Q none s -> wpAny (model prog w) A (dictFind b e.key e.hash) Q E s) /\ r = false) \/
  ∃ (j : Nat) (f : DictEntry), es'[j]? = some f /\ (∀ (Q : Option Nat -> Shared -> Prop) (E : Value -> Shared -> Prop), Q (some j) s -> wpAny (model prog w) A (dictFind b e.key e.hash) Q E s) /\ SeqAt.EqAt A s e.val f.val r
theorem range_all_split (r : Nat -> Bool) {i n : Nat} (h : i < n) (hr : r i = false) : (List.range n).all r = false := by
  rw [List.all_eq_false]
  exact ⟨i, List.mem_range.mpr h, by rw [hr]; decide⟩
theorem same_raw {nm : String} {a b : Addr} {oa ob : Obj} {es es' : Array DictEntry} {ep ep' : Nat} {r : Nat -> Bool} {Q : Bool -> Shared -> Prop} (ha : (a == sysModules) = false) (hb : (b == sysModules) = false)
    (hoa : s.heap.get? a = some oa) (hda : oa.data = .dict es ep) (hob : s.heap.get? b = some ob) (hdb : ob.data = .dict es' ep') (hit : es.size = es'.size -> ∀ i e, es[i]? = some e -> Hit prog w A s b es' e (r i))
    (h : Q (es.size == es'.size && (List.range es.size).all r) s) : wpAny (model prog w) A (Builtin.Dict.samePairs nm a b) Q E s := by
  unfold Builtin.Dict.samePairs Builtin.Dict.showsAll
  rw [if_neg (show ¬ (a == sysModules) = true by rw [ha]; exact Bool.false_ne_true), if_neg (show ¬ (b == sysModules) = true by rw [hb]; exact Bool.false_ne_true)]
  refine wpAny_bind (wpAny_pure (wpAny_bind (wpAny_pure (wpAny_bind (wpAny_dictEntries hoa hda ?_)))))
  dsimp only
  refine wpAny_bind (wpAny_dictEntries hob hdb ?_)
  by_cases sz : es.size = es'.size
  · rw [if_neg (by rw [sz]; simp)]
    have h' : Q ((List.range es.size).all r) s := by simpa [sz] using h
    refine wpAny_bind (wpAny_dictEpoch hoa hda (wpAny_bind ?_))
    rw [Std.Legacy.Range.forIn_eq_forIn_range']
    simp only [Std.Legacy.Range.size, Nat.sub_zero, Nat.add_sub_cancel, Nat.div_one]
    refine wpAny_forIn_list _ (fun rest q s' => s' = s /\ q = (none, ()) /\ ∃ i, rest = List.range' i (es.size - i) /\ i <= es.size /\ (List.range i).all r = true) _ ?_ ?_ _ _ ⟨rfl, rfl, 0, by simp, Nat.zero_le _, rfl⟩
    · rintro x rest q s' ⟨rfl, rfl, i, hr, hi, pre⟩
      have lt : i < es.size := by
        rcases Nat.lt_or_ge i es.size with z | z
        · exact z
        · rw [Nat.sub_eq_zero_of_le z] at hr
          simp at hr
      have e1 : es.size - i = (es.size - (i + 1)) + 1 := by omega
      rw [e1, List.range'_succ] at hr
      injection hr with h1 h2
      subst h1
      refine wpAny_bind (wpAny_dictEntries hoa hda ?_)
      have ex : es[x]? = some es[x] := Array.getElem?_eq_getElem lt
      rw [ex]
      change wpAny _ _ (holding [es[x].key, es[x].val] _ >>= _) _ _ _
      have stop : r x = false -> Q false s' := fun z => by rw [range_all_split r lt z] at h'; exact h'
      rcases hit sz x _ ex with ⟨fd, rz⟩ | ⟨j, f, ej, fd, eq⟩
      · refine wpAny_bind (wpAny_holding (wpAny_bind (fd _ _ (wpAny_pure ?_))))
        change wpAny _ _ (if (!false) = true then _ else _) _ _ _
        rw [if_pos (by decide)]
        exact wpAny_pure (wpAny_pure (stop rz))
      · refine wpAny_bind (wpAny_holding (wpAny_bind (fd _ _ ?_)))
        refine wpAny_bind (wpAny_dictEntries hob hdb ?_)
        rw [ej]
        refine wpAny_holding (eq _ _ _ _ ?_)
        cases rx : r x with
        | false =>
          change wpAny _ _ (if (!false) = true then _ else _) _ _ _
          rw [if_pos (by decide)]
          exact wpAny_pure (wpAny_pure (stop rx))
        | true =>
          change wpAny _ _ (if (!true) = true then _ else _) _ _ _
          rw [if_neg (by decide)]
          refine wpAny_bind (wpAny_dictEpoch hoa hda ?_)
          rw [if_neg (by simp)]
          exact wpAny_pure ⟨rfl, rfl, x + 1, h2, lt, by rw [List.range_succ, List.all_append, pre]; simp [rx]⟩
    · rintro q s' ⟨rfl, rfl, i, hr, hi, pre⟩
      have e : i = es.size := by
        rcases Nat.lt_or_ge i es.size with z | z
        · have e1 : es.size - i = (es.size - (i + 1)) + 1 := by omega
          rw [e1, List.range'_succ] at hr
          exact nomatch hr
        · exact Nat.le_antisymm hi z
      rw [<- e, pre] at h'
      exact wpAny_pure h'
  · rw [if_pos (by simpa using sz)]
    have e : (es.size == es'.size) = false := by simpa using sz
    rw [e, Bool.false_and] at h
    exact wpAny_bind (wpAny_rule (wpAny_pure h))
theorem dict_cmp {a b : Addr} {oa ob : Obj} {es es' : Array DictEntry} {ep ep' : Nat} {r : Nat -> Bool} {Q : Value -> Shared -> Prop} (neg : Bool) (ha : (a == sysModules) = false) (hb : (b == sysModules) = false) (xa : oa.ExactDict) (xb : ob.ExactDict)
    (hoa : s.heap.get? a = some oa) (hda : oa.data = .dict es ep) (hob : s.heap.get? b = some ob) (hdb : ob.data = .dict es' ep') (hu : A.units < cLine) (hit : es.size = es'.size -> ∀ i e, es[i]? = some e -> Hit prog w A.in1 s b es' e (r i))
    (h : Q (.bool (xor neg (es.size == es'.size && (List.range es.size).all r))) s) : wpAny (model prog w) A (compareOp (if neg then .NotEq else .Eq) (.ref a) (.ref b)) Q E s := by
  have da : s.heap.DictRaw a es ep := ⟨oa, hoa, xa, hda⟩
  have db : s.heap.DictRaw b es' ep' := ⟨ob, hob, xb, hdb⟩
  cases neg with
  | false =>
    refine wpAny_richCompare_same_room (op := .Eq) da.typeIs db.typeIs PySem.F.slot_dict_eq (wpAny_call_entry PySem.F.slot_dict_eq da.typeIs PySem.F.entry_dict_eq ?_ (PySem.F.args_dict_eq_2 _ _)) hu
    change wpAny _ _ (Builtin.Dict.dictSlotArgs "__eq__" ⟨[.ref a, .ref b], []⟩ >>= _) _ _ s
    refine wpAny_bind ?_
    unfold Builtin.Dict.dictSlotArgs
    refine wpAny_bind (wpAny_notOrdered_dict da.typeIs ?_)
    change wpAny _ _ (pure (Value.ref a, Value.ref b)) _ _ s
    refine wpAny_pure (wpAny_bind (wpAny_isInstance (T := "dict") db.typeIs PySem.F.sub_dict_dict ?_))
    simp only [Bool.not_true, Bool.false_eq_true, if_false]
    refine wpAny_bind (wpAny_pure (wpAny_bind (wpAny_pure (wpAny_bind (same_raw ha hb hoa hda hob hdb hit ?_)))))
    exact wpAny_pure ⟨_, rfl, ⟨(fun x => nomatch x), by simpa using h⟩⟩
  | true =>
    refine wpAny_richCompare_same_room (op := .NotEq) da.typeIs db.typeIs PySem.F.slot_dict_ne (wpAny_call_entry PySem.F.slot_dict_ne da.typeIs PySem.F.entry_dict_ne ?_ (PySem.F.args_dict_ne_2 _ _)) hu
    change wpAny _ _ (Builtin.Dict.dictSlotArgs "__ne__" ⟨[.ref a, .ref b], []⟩ >>= _) _ _ s
    refine wpAny_bind ?_
    unfold Builtin.Dict.dictSlotArgs
    refine wpAny_bind (wpAny_notOrdered_dict da.typeIs ?_)
    change wpAny _ _ (pure (Value.ref a, Value.ref b)) _ _ s
    refine wpAny_pure (wpAny_bind (wpAny_isInstance (T := "dict") db.typeIs PySem.F.sub_dict_dict ?_))
    simp only [Bool.not_true, Bool.false_eq_true, if_false]
    refine wpAny_bind (wpAny_pure (wpAny_bind (wpAny_pure (wpAny_bind (same_raw ha hb hoa hda hob hdb hit ?_)))))
    exact wpAny_pure ⟨_, rfl, ⟨(fun x => nomatch x), by simpa using h⟩⟩
end
def wdgo (ks' vs' : List W) : List W -> List W -> Option Bool
  | k :: ks, v :: vs => match keyFit k ks' with
    | true => match dfind k ks' vs' with
      | some y => match weq 29 v y with
        | some b => match wdgo ks' vs' ks vs with
          | some c => some (b && c)
          | none => none
        | none => none
      | none => match wdgo ks' vs' ks vs with
        | some _ => some false
        | none => none
    | false => none
  | [], [] => some true
  | _, _ => none
theorem wdgo_at {ks' vs' : List W} : ∀ {ks vs : List W} {b : Bool}, wdgo ks' vs' ks vs = some b -> ∃ r : Nat -> Bool, (∀ i k v, ks[i]? = some k -> vs[i]? = some v -> keyFit k ks' = true /\ ((dfind k ks' vs' = none /\ r i = false) \/ ∃ y, dfind k ks' vs' = some y /\ weq 29 v y = some (r i))) /\ (List.range ks.length).all r = b
  | [], [], b, h => by cases h; exact ⟨fun _ => true, fun i k v e => by simp at e, rfl⟩
  | [], v :: vs, b, h => by cases h
  | k :: ks, [], b, h => by cases h
  | k :: ks, v :: vs, b, h => by
    have mk : ∀ (a : Bool) {c : Bool} (r : Nat -> Bool), ((List.range ks.length).all r = c) -> (List.range (k :: ks).length).all (fun j => match j with | 0 => a | j + 1 => r j) = (a && c) := fun a c r e => by
      rw [List.length_cons, List.range_succ_eq_map, List.all_cons, List.all_map, <- e]
      rfl
    unfold wdgo at h
    split at h
    · rename_i fit
      split at h
      · rename_i y ey
        split at h
        · rename_i a ea
          split at h
          · rename_i c ec
            cases h
            obtain ⟨r, h1, h2⟩ := wdgo_at ec
            refine ⟨fun j => match j with | 0 => a | j + 1 => r j, fun i k' v' e1 e2 => ?_, mk a r h2⟩
            cases i with
            | zero => simp at e1 e2; subst e1 e2; exact ⟨fit, .inr ⟨y, ey, ea⟩⟩
            | succ i => exact h1 i k' v' (by simpa using e1) (by simpa using e2)
          · cases h
        · cases h
      · rename_i ey
        split at h
        · rename_i c ec
          cases h
          obtain ⟨r, h1, h2⟩ := wdgo_at ec
          refine ⟨fun j => match j with | 0 => false | j + 1 => r j, fun i k' v' e1 e2 => ?_, by rw [mk false r h2, Bool.false_and]⟩
          cases i with
          | zero => simp at e1 e2; subst e1 e2; exact ⟨fit, .inl ⟨ey, rfl⟩⟩
          | succ i => exact h1 i k' v' (by simpa using e1) (by simpa using e2)
        · cases h
    · cases h
theorem Ents.hashAt {es : List DictEntry} {kv vv : List V} {hs : List Int} (r : Ents es kv vv hs) : ∀ {i : Nat} {e : DictEntry}, es[i]? = some e -> hs[i]? = some e.hash := by
  induction r with
  | nil => intro i e h; simp at h
  | cons hk hv hh _ ih =>
    intro i e h
    cases i with
    | zero => simp at h; subst h; simp [hh]
    | succ i => simpa using ih (by simpa using h)
theorem nodup_inj {α : Type} : ∀ {l : List α} (_ : l.Nodup) {i j : Nat} (hi : i < l.length) (hj : j < l.length), l[i] = l[j] -> i = j
  | [], _, i, j, hi, _, _ => by simp at hi
  | x :: l, n, 0, 0, _, _, _ => rfl
  | x :: l, n, 0, j + 1, hi, hj, e => absurd (show x ∈ l by
      have e : x = l[j]'(by simpa using hj) := by simpa using e
      rw [e]; exact List.getElem_mem _) (List.nodup_cons.mp n).1
  | x :: l, n, i + 1, 0, hi, hj, e => absurd (show x ∈ l by
      have e : l[i]'(by simpa using hi) = x := by simpa using e
      rw [<- e]; exact List.getElem_mem _) (List.nodup_cons.mp n).1
  | x :: l, n, i + 1, j + 1, hi, hj, e => by
    rw [nodup_inj (List.nodup_cons.mp n).2 (i := i) (j := j) (by simpa using hi) (by simpa using hj) (by simpa using e)]
theorem find_in {P : Program} {wo : World} {A : Around} {s : Shared} (eP : G.P = P) (ew : G.w = wo) {T : Tie} {H : Hp} (ok : HOk P wo H s.heap) (hu : A.units + 8 < cLine) {ks vs : List W} {a : Addr} {o : Obj} {kv vv : List V} (D : DAt G T H ks vs a o kv vv) {es : Array DictEntry} {ep : Nat} (ed : o.data = .dict es ep) {k : W} {vk : V} {uk : Value}
    (fit : keyFit k ks = true) (rk : Rep G T H k vk) (ru : RelV vk uk) :
    (dfind k ks vs = none -> ∀ (Q : Option Nat -> Shared -> Prop) (E : Value -> Shared -> Prop), Q none s -> wpAny (model P wo) A (dictFind a uk (hashW wo k)) Q E s) /\
    (∀ y, dfind k ks vs = some y -> ∃ (j : Nat) (f : DictEntry), es[j]? = some f /\ (∀ (Q : Option Nat -> Shared -> Prop) (E : Value -> Shared -> Prop), Q (some j) s -> wpAny (model P wo) A (dictFind a uk (hashW wo k)) Q E s) /\ ∃ v, RelV v f.val /\ Rep G T H y v) := by
  have ea := exact_at ok D.at_
  rcases D.split eP ew ok fit rk ru with ⟨κ, kl, us, hκ, hkl, nd, rv, ln, ki, dd⟩ | ⟨κ, kl, us, b, bs, hκ, hkl, nd, rv, ln, ln2, ekv, rfl, rfl, ki, dd⟩
  · obtain ⟨o2, es2, ep2, e1, e2, e3, e4, e5, _⟩ := dd
    rw [ea] at e1
    cases e1
    rw [ed] at e3
    cases e3
    have fd := look_S hκ hkl D.rv rv D.len
    have fnd : findBy (mixKind P wo).is es κ = valueAt (kl.zip us) κ := by
      rw [<- e5.find κ]
      obtain ⟨l⟩ := es
      simp [findBy]
    rw [hash_S hκ]
    have run : ∀ (Q : Option Nat -> Shared -> Prop) (E : Value -> Shared -> Prop), Q (es.findIdx? fun e => (mixKind P wo).is κ e.key) s -> wpAny (model P wo) A (dictFind a uk (keyH wo κ)) Q E s := fun Q E h => wpAny_dictFind_of (knd := mixKind P wo) ki ea ed e4 h
    rw [findBy_of_findIdx?] at fnd
    refine ⟨fun en => ?_, fun y ey => ?_⟩
    · rw [en] at fd
      have z : valueAt (kl.zip us) κ = none := fd
      rw [z] at fnd
      cases ej : es.findIdx? fun e => (mixKind P wo).is κ e.key with
      | none => rw [ej] at run; exact run
      | some j =>
        rw [ej] at fnd
        obtain ⟨jl, _, _⟩ := Array.findIdx?_eq_some_iff_getElem.mp ej
        simp [Array.getElem?_eq_getElem jl] at fnd
    · rw [ey] at fd
      obtain ⟨v, x, z, r1, r2⟩ := fd
      rw [z] at fnd
      cases ej : es.findIdx? fun e => (mixKind P wo).is κ e.key with
      | none => rw [ej] at fnd; simp at fnd
      | some j =>
        rw [ej] at fnd run
        obtain ⟨jl, _, _⟩ := Array.findIdx?_eq_some_iff_getElem.mp ej
        have ex : es[j].val = x := by simpa [Array.getElem?_eq_getElem jl] using fnd
        exact ⟨j, es[j], Array.getElem?_eq_getElem jl, run, v, by rw [ex]; exact r1, r2⟩
  · obtain ⟨o2, es2, ep2, e1, e2, e3, e4, e5, e6⟩ := dd
    rw [ea] at e1
    cases e1
    rw [ed] at e3
    cases e3
    have fd := look_T (bs := bs) hκ hkl D.rv rv D.len ln2
    rw [hash_T hκ]
    refine ⟨fun en => ?_, fun y ey => ?_⟩
    · rw [en] at fd
      have z : ((atKey (kl.zip (bs.zip us)) κ).map (·.2)) = none := fd
      intro Q E h
      refine wpAny_dictFind_heap (knd := nestedKind P wo) hu ki ea ed e4 e5 e6 (fun _ => h) fun j p ej => ?_
      rw [atKey_of_get e6 ej] at z
      cases z
    · rw [ey] at fd
      obtain ⟨v, x, z, r1, r2⟩ := fd
      cases ep2 : atKey (kl.zip (bs.zip us)) κ with
      | none => rw [ep2] at z; cases z
      | some p =>
        rw [ep2] at z
        cases z
        obtain ⟨j, ej⟩ : ∃ j, (kl.zip (bs.zip us))[j]? = some (κ, p) := by
          unfold atKey at ep2
          obtain ⟨q, eq, rfl⟩ := Option.map_eq_some_iff.mp ep2
          have m := List.mem_of_find?_eq_some eq
          have c := List.find?_some eq
          obtain ⟨j, ej⟩ := List.mem_iff_getElem?.mp m
          have : q.1 = κ := by simpa using c
          exact ⟨j, by rw [ej, <- this]⟩
        refine ⟨j, entryOfKey (nestedKind P wo) (κ, p), ?_, fun Q E h => ?_, v, r1, r2⟩
        · rw [entry_at e4 j, ej]
          rfl
        · refine wpAny_dictFind_heap (knd := nestedKind P wo) hu ki ea ed e4 e5 e6 (fun hn => absurd ej (hn j p)) fun j' p' ej' => ?_
          have : j' = j := by
            have h1 : ((kl.zip (bs.zip us)).map (·.1))[j']? = some κ := by rw [List.getElem?_map, ej']; rfl
            have h2 : ((kl.zip (bs.zip us)).map (·.1))[j]? = some κ := by rw [List.getElem?_map, ej]; rfl
            have l1 := (List.getElem?_eq_some_iff.mp h1).1
            have l2 := (List.getElem?_eq_some_iff.mp h2).1
            rw [List.getElem?_eq_getElem l1] at h1
            rw [List.getElem?_eq_getElem l2] at h2
            exact nodup_inj e6 l1 l2 (Option.some.inj (h1.trans h2.symm))
          rw [this]
          exact h
def wCmpD (neg : Bool) : F2 := fun a b h => match dctOf a h, dctOf b h with
  | some (ks, vs), some (ks', vs') => match Nat.beq ks.length ks'.length with
    | false => some (.bl neg)
    | true => match wdgo ks' vs' ks vs with
      | some r => some (.bl (xor neg r))
      | none => none
  | none, none => match weq 30 a b with
    | some r => some (.bl (xor neg r))
    | none => none
  | _, _ => none
theorem mo_cmpD (neg : Bool) (hu : X.A.units + 64 < cLine) : MO X adr (compareOp (if neg then .NotEq else .Eq)) (wCmpD neg) := by
  intro pins s σ H x y v u Q I rx ry ⟨T, h, w1, w2, w, hr, r1, r2, e, q⟩
  unfold wCmpD at e
  split at e
  · rename_i ks vs ks' vs' d1 d2
    obtain ⟨a, o, kv, vv, rfl, D⟩ := dct_at hr r1 d1
    obtain ⟨b, o', kv', vv', rfl, D'⟩ := dct_at hr r2 d2
    obtain rfl : v = .ref a := rx
    obtain rfl : u = .ref b := ry
    have ea := exact_at I.hok D.at_
    have eb := exact_at I.hok D'.at_
    obtain ⟨es, ep, ed, en, dr⟩ := D.d.raw ea
    obtain ⟨es', ep', ed', en', dr'⟩ := D'.d.raw eb
    have l1 : es.size = ks.length := by
      have z1 := en.len.1
      have z2 := D.rk.length
      simp at z1; omega
    have l2 : es'.size = ks'.length := by
      have z1 := en'.len.1
      have z2 := D'.rk.length
      simp at z1; omega
    split at e
    · rename_i nb
      cases e
      have ne : es.size ≠ es'.size := fun z => by
        rw [l1, l2] at z
        rw [z, Nat.beq_refl] at nb
        cases nb
      refine dict_cmp (r := fun _ => false) neg D.sm D'.sm D.d.1 D'.d.1 ea ed eb ed' (by omega) (fun z => absurd z ne) ?_
      have e0 : (es.size == es'.size) = false := by simpa using ne
      rw [e0, Bool.false_and, Bool.xor_false]
      exact ⟨.bl neg, H, I, rfl, Hands.bl hr q⟩
    · rename_i nb
      have leq : ks.length = ks'.length := Nat.eq_of_beq_eq_true nb
      split at e
      · rename_i r er
        cases e
        obtain ⟨f, h1, h2⟩ := wdgo_at er
        refine dict_cmp (r := f) neg D.sm D'.sm D.d.1 D'.d.1 ea ed eb ed' (by omega) (fun z i e ei => ?_) ?_
        · have ei' : es.toList[i]? = some e := by simpa using ei
          obtain ⟨k1, v1, g1, g2, q1, q2⟩ := en.get ei'
          have hh := en.hashAt ei'
          obtain ⟨kw, f1, p1⟩ := D.rk.getL g1
          obtain ⟨vw, f2, p2⟩ := D.rv.getL g2
          have eh : e.hash = hashW X.w kw := by
            rw [List.getElem?_map, f1] at hh
            exact (Option.some.inj hh).symm
          obtain ⟨fit, c⟩ := h1 i kw vw f1 f2
          obtain ⟨F1, F2⟩ := find_in (A := X.A.in1) (P := X.prog) (wo := X.w) rfl rfl I.hok (by show X.A.units + 1 + 8 < cLine; omega) D' ed' fit p1 q1
          rw [<- eh] at F1 F2
          rcases c with ⟨c1, c2⟩ | ⟨y, c1, c2⟩
          · exact .inl ⟨F1 c1, c2⟩
          · obtain ⟨j, f', ej, run, v', s1, s2⟩ := F2 y c1
            exact .inr ⟨j, f', ej, run, (weq_at (G := kt X adr) 29 I.hok (by show X.A.units + 1 + 29 < cLine; omega) c2 p2 s2 q2 s1).2.2⟩
        · have e0 : (es.size == es'.size) = true := by simp; omega
          rw [e0, Bool.true_and, l1, h2]
          exact ⟨.bl _, H, I, rfl, Hands.bl hr q⟩
      · cases e
  · split at e
    · rename_i r er
      cases e
      have z := weq_at (G := kt X adr) (A := X.A) (s := s) 30 I.hok (by omega) er r1 r2 rx ry
      cases neg with
      | false => exact z.1 _ _ _ _ ⟨.bl _, H, I, rfl, Hands.bl hr (by simpa using q)⟩
      | true => exact z.2.1 _ _ _ _ ⟨.bl _, H, I, rfl, Hands.bl hr (by simpa using q)⟩
    · cases e
  · cases e
end Mi
end
section
namespace Mi
open PySem PySem.Spec PyProof.Rows L2
variable {G : Kt} {X : Cx} {adr : Ad} {Y : WX}
def mChain (F F' : F2) (a b c : EM) : EM := fun me h => (a me h).bind fun x h => (b me h).bind fun y h => match F x y h with
  | some (.bl true) => (c me h).bind fun z h => ofO (F' y z h) h
  | some (.bl false) => .ok (.bl false) h
  | _ => .stuck
section
variable {a b c : Expr} {ma mb mc : EM} {pos : Pos} {F F' : F2} {op op' : CmpOp}
theorem rd_chain : ∀ σ H Q, rdE (kt X adr) Y (mChain F F' ma mb mc) σ H Q -> tChain (rW (kt X adr) F) (rW (kt X adr) F') (rdE (kt X adr) Y ma) (rdE (kt X adr) Y mb) (rdE (kt X adr) Y mc) σ H Q := fun σ H Q ⟨T, me, h, hr, hE, q⟩ =>
  ⟨T, me, h, hr, hE, Res.bind q fun x h1 _ T1 H1 v1 hr1 x1 rp1 q1 => ⟨T1, me, h1, hr1, hE.ex x1, Res.bind q1 fun y h2 _ T2 H2 v2 hr2 x2 rp2 q2 => by
    cases e : F x y h2 with
    | none => rw [e] at q2; exact q2.elim
    | some w =>
      rw [e] at q2
      refine ⟨T2, h2, x, y, w, hr2, rep_ex x2 _ _ rp1, rp2, e, fun T3 H3 v3 hr3 x3 rp3 => ?_⟩
      cases w with
      | bl k =>
        unfold Rep at rp3
        refine ⟨k, rp3, ?_⟩
        cases k with
        | false =>
          rw [if_neg (by decide)]
          exact q2 T3 H3 _ hr3 x3 (by unfold Rep; rfl)
        | true =>
          rw [if_pos rfl]
          refine ⟨T3, me, h2, hr3, ((hE.ex x1).ex x2).ex x3, Res.bind (Res.ex q2 x3) fun z h4 _ T4 H4 v4 hr4 x4 rp4 q4 => ?_⟩
          cases e2 : F' y z h4 with
          | none => rw [e2] at q4; exact q4.elim
          | some w2 =>
            rw [e2] at q4
            exact ⟨T4, h4, y, z, w2, hr4, rep_ex x4 _ _ (rep_ex x3 _ _ rp2), rp4, e2, q4⟩
      | _ => exact q2.elim⟩⟩
theorem me_chain (ho : MO X adr (compareOp op) F) (ho' : MO X adr (compareOp op') F') (ha : ME X adr Y a ma) (hb : ME X adr Y b mb) (hc : ME X adr Y c mc) (hm : lastMarks [op, op'] [b, c] = false) : ME X adr Y (.Compare a [op, op'] [b, c] pos) (mChain F F' ma mb mc) :=
  pe_imp (pe_chain ho ho' ha hb hc hm) rd_chain
theorem mt_chain (ho : MO X adr (compareOp op) F) (ho' : MO X adr (compareOp op') F') (ha : ME X adr Y a ma) (hb : ME X adr Y b mb) (hc : ME X adr Y c mc) (hm : lastMarks [op, op'] [b, c] = false) : MT X adr Y (.Compare a [op, op'] [b, c] pos) (mChain F F' ma mb mc) :=
  pt_imp (pt_chain ho ho' ha hb hc hm) fun σ H Q q => rd_chain (Y := Y) σ H _ (rd_test σ H Q q)
def mNeg (a : EM) : EM := fun me h => (a me h).bind fun x h => match x with
  | .int i => .ok (.int (-i)) h
  | _ => .stuck
theorem me_neg (ha : ME X adr Y a ma) : ME X adr Y (.UnaryOp .USub a pos) (mNeg ma) := pe_imp (pe_un un_neg ha) fun σ H Q ⟨T, me, h, hr, hE, q⟩ => ⟨T, me, h, hr, hE, Res.bind q fun x h1 _ T1 H1 v hr1 x1 rp q1 => by
  cases x with
  | int i => exact ⟨i, rep_int rp, q1 T1 H1 _ hr1 (Ex.rfl' hr1.ok) (by unfold Rep; rfl)⟩
  | _ => exact q1.elim⟩
end
section
variable {e a b : Expr} {as ma : EM} {p p2 pos pos2 : Pos}
end
def wCmpB (neg : Bool) : F2 := fun a b h => match a, b with
  | .ref n, .ref m => wCmpD neg (.ref n) (.ref m) h
  | .ref n, b => match h.get n with
    | some (.lst ws) => match weq 30 (.lst ws) b with
      | some r => some (.bl (xor neg r))
      | none => none
    | _ => wCmpD neg (.ref n) b h
  | a, b => wCmpD neg a b h
theorem mo_cmpB (neg : Bool) (hu : X.A.units + 64 < cLine) : MO X adr (compareOp (if neg then .NotEq else .Eq)) (wCmpB neg) := by
  intro pins s σ H x y v u Q I rx ry ⟨T, h, w1, w2, w, hr, r1, r2, e, q⟩
  have old : wCmpD neg w1 w2 h = some w -> wpAny (model X.prog X.w) X.A (compareOp (if neg then .NotEq else .Eq) v u) (EP X pins σ Q) X.xe s := fun e => mo_cmpD neg hu pins s σ H x y v u Q I rx ry ⟨T, h, w1, w2, w, hr, r1, r2, e, q⟩
  unfold wCmpB at e
  split at e
  · exact old e
  · rename_i n b _
    split at e
    · rename_i ws eg
      split at e
      · rename_i r er
        cases e
        obtain ⟨hr2, x2, rr⟩ := freeze hr eg r1
        have z := weq_at (G := kt X adr) (A := X.A) (s := s) 30 I.hok (by omega) er rr (rep_ex x2 _ _ r2) rx ry
        cases neg with
        | false => exact z.1 _ _ _ _ ⟨.bl _, H, I, rfl, Hands.bl hr (by simpa using q)⟩
        | true => exact z.2.1 _ _ _ _ ⟨.bl _, H, I, rfl, Hands.bl hr (by simpa using q)⟩
      · cases e
    · exact old e
  · exact old e
theorem mo_eqB (hu : X.A.units + 64 < cLine) : MO X adr (compareOp .Eq) (wCmpB false) := mo_cmpB false hu
theorem mo_neB (hu : X.A.units + 64 < cLine) : MO X adr (compareOp .NotEq) (wCmpB true) := mo_cmpB true hu
structure Cal (P : Program) (w : World) (K : PySem.W.Frag) (mg : Str -> Option Value) (base : Heap) (adr : Ad) (f : Addr) (k : Nat) (mf : FM) (dws : List W) : Prop where
  ex : ∃ fd ps ds, FnOk P w K mg base (L2N.CX P w) k f fd ps (spM ⟨P, w, K, adr⟩ mf) /\ Binds K fd ps ds /\ Dfl K dws ds
  kp : PySem.W.keepIn K (.ref f) = true
section
variable {k : Nat} {f : Addr} {mf : FM} {dws : List W} {x m : Str} {p pos apos : Pos} {e o : Expr} {es : List Expr} {as : AM} {mo : EM}
theorem me_cal (C : Cal X.prog X.w X.K X.mg X.base adr f k mf dws) (hr : Room k X.A) (hg : Gl X x) (hm : X.mg x = some (.ref f)) (tk : L2N.Takes X Y)
    (ha : MA X adr Y (e :: es) as) (hdb : (x == ("__debug__" : Str)) = false) (he : starEach (e :: es) X.env = (false, eval e X.env) :: starEach es X.env) (hpl : (backTo pos (starEach es X.env)).any (·.1) = false) :
    ME X adr Y (.Call (.Name x p) (e :: es) [] pos) (mCall mf dws as) := by
  obtain ⟨fd, ps, ds, F, hb, hd⟩ := C.ex
  exact me_call F hr hg hm C.kp hb hd tk ha hdb he hpl
theorem me_mk {c : Nat} {fr : Bool} (M : Mk X.K (adr c) f) (C : Cal X.prog X.w X.K X.mg X.base adr f k mf dws) (hr : Room (k + 1) X.A) (hg : Gl X x) (hm : X.mg x = some (.ref (adr c))) (tk : L2N.Takes X Y)
    (ha : MA X adr Y (e :: es) as) (hdb : (x == ("__debug__" : Str)) = false) (he : starEach (e :: es) X.env = (false, eval e X.env) :: starEach es X.env) (hpl : (backTo pos (starEach es X.env)).any (·.1) = false) :
    ME X adr Y (.Call (.Name x p) (e :: es) [] pos) (mMake c mf dws fr as) := by
  obtain ⟨fd, ps, ds, F, hb, hd⟩ := C.ex
  exact me_make M F hr hg hm hb hd tk ha hdb he hpl
def mMt (c : Nat) (m : Str) (mf : FM) (dws : List W) (mo : EM) (as : AM) : EM := fun me h => (mo me h).bind fun w h => match insOf w h with
  | some (c', fn, fv) => match Nat.beq c' c with
    | true => match getF m fn fv with
      | none => (as me h).bind fun ws h => mf (w :: (ws ++ dws)) h
      | some _ => .stuck
    | false => .stuck
  | none => .stuck
theorem getF_none {T : Tie} {H : Hp} {f : Str} : ∀ {fn : List Str} {fv : List W} {vv : List V}, fn.length = vv.length -> Reps G T H fv vv -> getF f fn fv = none -> (fn.zip vv).lookup f = none
  | [], _, _, _, _, _ => rfl
  | g :: fn, [], vv, l, r, e => by unfold Reps at r; subst r; cases l
  | g :: fn, y :: fv, vv, l, r, e => by
    unfold Reps at r
    obtain ⟨v, s, rfl, h1, h2⟩ := r
    unfold getF at e
    cases q : strEq f g with
    | true => rw [q] at e; cases e
    | false =>
      rw [q] at e
      have ne : (f == g) = false := beq_eq_false_iff_ne.mpr fun z => by rw [strEq_iff.mpr z] at q; cases q
      simp only [List.zip_cons_cons, List.lookup, ne]
      exact getF_none (by simpa using l) h2 e
theorem me_mt {c : Nat} {pl : Sem Bool} (ho : ME X adr Y o mo) (hc : Cls X.K (adr c)) (hm : Meth X.K (adr c) m f) (C : Cal X.prog X.w X.K X.mg X.base adr f k mf dws) (hr : Room k X.A) (tk : L2N.Takes X Y) (ha : MA X adr Y (e :: es) as)
    (hst : starEach (e :: es) X.env = (false, eval e X.env) :: starEach es X.env) (hpl : (backTo pos (starEach es X.env)).any (·.1) = false)
    (ht : eval (.Call (.Attribute o m apos) (e :: es) [] pos) X.env = (do
      let ov <- eval o X.env
      standAt apos.atName
      let (f, first) <- holding [ov] (getMethod ov m pl)
      callWith pos f first (backTo pos (starEach (e :: es) X.env)) (backToKw pos (keywordEach [] X.env)))) :
    ME X adr Y (.Call (.Attribute o m apos) (e :: es) [] pos) (mMt c m mf dws mo as) := by
  obtain ⟨fd, ps, ds, F, hb, hd⟩ := C.ex
  refine ⟨fun pins s σ H Q I ⟨T, me, h, hR, hE, q⟩ => ?_⟩
  refine PySem.W.methodCall_KW (pl := pl) (thn (ho.run pins s σ H (fun v H1 => ∃ T1 h1 w fn fv, Hrel (kt X adr) T1 h1 H1 /\ Erel (kt X adr) T1 me σ H1 /\ Rep (kt X adr) T1 H1 w v /\ insOf w h1 = some (c, fn, fv) /\ getF m fn fv = none /\ ResV (kt X adr) Y T1 H1 σ ((as me h1).bind fun ws h => mf (w :: (ws ++ dws)) h) Q) I
    ⟨T, me, h, hR, hE, Res.bind q fun w h1 _ T1 H1 v hr1 x1 rp q1 => ?_⟩) fun u s1 ⟨v, H1, I1, rv, T1, h1, w, fn, fv, hr1, hE1, rp, ei, en, q1⟩ => ?_) ht
  · cases ei : insOf w h1 with
    | none => simp only [ei] at q1; exact q1.elim
    | some t =>
      obtain ⟨c', fn, fv⟩ := t
      simp only [ei] at q1
      cases ec : Nat.beq c' c with
      | false => simp only [ec] at q1; exact q1.elim
      | true =>
        simp only [ec] at q1
        obtain rfl := Nat.eq_of_beq_eq_true ec
        cases en : getF m fn fv with
        | some _ => simp only [en] at q1; exact q1.elim
        | none => simp only [en] at q1; exact ⟨T1, h1, w, fn, fv, hr1, hE.ex x1, rp, ei, en, q1⟩
  · obtain ⟨a, dx, vv, rfl, e2, l, r⟩ := insOf_at hr1 rp ei
    obtain rfl : u = .ref a := rv
    refine getmeth_ok I1 e2 hc hm (getF_none l r en) ?_
    refine PySem.W.callWith_K (first := [.ref a]) (h₀ := X.base) I1.ok.mod.kin hm.kp (thn (ha.run pos pins s1 σ H1 (fun vs H2 => ∃ T2 h2 ws, Hrel (kt X adr) T2 h2 H2 /\ Rep (kt X adr) T2 H2 w (.ref a) /\ Reps (kt X adr) T2 H2 ws vs /\ ResV (kt X adr) Y T2 H2 σ (mf (w :: (ws ++ dws)) h2) Q) I1
      ⟨T1, me, h1, hr1, hE1, Res.bind q1 fun ws h2 _ T2 H2 vs hr2 x2 rp2 q2 => ⟨T2, h2, ws, hr2, rep_ex x2 _ _ rp, rp2, q2⟩⟩) fun us s2 ⟨vs, H2, I2, r2, T2, h2, ws, hr2, rp1, rp2, q2⟩ => ⟨I2.kIn, ?_⟩) hst hpl
    exact run_m (us := .ref a :: us) (vs := .ref a :: vs) (ws := w :: ws) F hr hb hd tk I2 (.cons rfl r2) hr2 (.cons rp1 rp2) q2
end
theorem takes0 (h : X.xe = fun _ _ => False) : L2N.Takes X Y0 := fun u s' ⟨_, _, _, _, _, _, _, _, _, _, _, _, _, _, _, _, z⟩ => z.elim
end Mi
end
section
namespace Mi
open PySem PySem.Spec PyProof.Rows L2
theorem _root_.L2.Room.hu {k : Nat} {A : Around} (r : Room k A) : A.units + 64 < cLine := by have := r.un; omega
theorem blk_mk {N : List Str} {sc scope : Scope} {own : List (Str × Nat)} (kind : scope.kind = .function) (b : ((scope.names.all fun y => decide (scope.names.lookup y.1 = some y.2)) && ((own.all fun p => decide (N[p.2]? = some p.1)) &&
   ((scope.names.all fun y => !(decide (y.2 = .free)) || (decide (sc.names.lookup y.1 = some .cell) || decide (sc.names.lookup y.1 = some .free))) &&
    (scope.names.all fun y => !(decide (y.2 = .local) || decide (y.2 = .cell)) || (decide (y.1 ∈ own.map (·.1)) || decide (y.1 ∉ N)))))) = true) : BlkOk N sc scope own := by
  simp only [Bool.and_eq_true, List.all_eq_true, Bool.or_eq_true, Bool.not_eq_true', decide_eq_true_iff, decide_eq_false_iff_not, Bool.or_eq_false_iff] at b
  obtain ⟨b1, b2, b3, b4⟩ := b
  exact ⟨kind, b1, b2, fun y hy e => (b3 y hy).elim (fun z => absurd e z) id, fun y hy e => (b4 y hy).elim (fun z => absurd e (by rcases e with e | e <;> simp [e] at z)) id⟩
structure CalK (P : Program) (w : World) (K : PySem.W.Frag) (mg : Str -> Option Value) (base : Heap) (adr : Ad) (f : Addr) (k n : Nat) (ks : List Str) (mf : FM) : Prop where
  ex : ∃ fd ps, FnOk P w K mg base (L2N.CX P w) k f fd ps (spM ⟨P, w, K, adr⟩ mf) /\ KBn K fd ps (n + 1) ks (fun us ws => us ++ ws) (fun us ws => us ++ ws)
section
variable {X : Cx} {adr : Ad} {Y : WX} {k n c : Nat} {fr : Bool} {f : Addr} {mf : FM} {ks : List Str} {x nm : Str} {p p2 pos pos' : Pos} {e : Expr} {es : List Expr} {as az : AM} {kws : List Keyword} {dws : List W}
theorem me_mkK (M : Mk X.K (adr c) f) (C : CalK X.prog X.w X.K X.mg X.base adr f k n ks mf) (hr : Room (k + 1) X.A) (hg : Gl X x) (hm : X.mg x = some (.ref (adr c))) (tk : L2N.Takes X Y)
    (ha : MA X adr Y (e :: es) as) (hkw : MK X adr Y kws az) (hall : (backToKw pos (keywordEach kws X.env)).all (·.1.isSome) = true) (hks : (backToKw pos (keywordEach kws X.env)).filterMap (·.1) = ks) (hdb : (x == ("__debug__" : Str)) = false)
    (he : starEach (e :: es) X.env = (false, eval e X.env) :: starEach es X.env) (hpl : ((backTo pos (starEach (e :: es) X.env)).any (·.1) || (backToKw pos (keywordEach kws X.env)).any (·.1.isNone)) = false) :
    ME X adr Y (.Call (.Name x p) (e :: es) kws pos) (mMakeK c n ks.length mf fr as az) := by
  obtain ⟨fd, ps, F, hb⟩ := C.ex
  exact me_makeK M F hr hg hm hb tk ha hkw hall hks hdb he hpl
end
theorem isB_ok {K : PySem.W.Frag} {adr : Nat -> Addr} {n : Nat} {sub : Nat -> Nat -> Bool} (h : isB K adr n sub = true) : IsF K adr n sub := by
  unfold isB at h
  simp only [Bool.and_eq_true, List.all_eq_true, decide_eq_true_iff, List.mem_range] at h
  obtain ⟨h1, h2, h3, h4, h5, h6⟩ := h
  exact ⟨fun c d hc hd => h1 c hc d hd, fun c k hc hk => h2 c hc k hk, fun k d hk hd => h3 k hk d hd, fun c hc => by
    obtain ⟨a1, a2, a3, a4, a5, a6⟩ := h4 c hc
    exact ⟨⟨a1, a2, a3, He.eqO_ok a4⟩, He.eqO_ok a5, a6⟩, He.eqO_ok h5, h6⟩
variable {G : Kt} {X : Cx} {adr : Ad} {Y : WX}
def sPar2 (i j : Nat) (as : AM) : SM := fun me h => .ofA me (as me h) fun ws h => match ws with
  | [a, b] => .nx (put (put me i a) j b) h
  | _ => .stuck
theorem ms_par2 {i j : Nat} {x y : Str} {a b : Expr} {as : AM} {px py pt pos : Pos} {kt' k2 pt2} (hc : X.calm = true) (hN : X.N.Nodup) (hi : X.N[i]? = some x) (hj : X.N[j]? = some y) (hij : i ≠ j)
    (hx : X.env.scope.names.lookup x = some .local) (hy : X.env.scope.names.lookup y = some .local) (ha : MA X adr Y [a, b] as)
    (hw : swappedStores [.Tuple [.Name x px, .Name y py] kt' pt] (.Tuple [a, b] k2 pt2) X.env = pure (some [x, y]))
    (hs : swapsWithSole [.Tuple [.Name x px, .Name y py] kt' pt] (.Tuple [a, b] k2 pt2) pos.line X.env = pure false) :
    MS X adr Y (.Assign [.Tuple [.Name x px, .Name y py] kt' pt] (.Tuple [a, b] k2 pt2) pos) (sPar2 i j as) :=
  ps_imp (ps_par hc hN hi hj hij hx hy ha hw hs) fun D σ H ⟨T, me, h, hr, hE, q⟩ => ⟨T, me, h, hr, hE, ResS.bindA hE q fun ws h1 _ T1 H1 vs hr1 x1 rp e1 q1 => by
    match ws, rp, q1 with
    | [], _, q1 => exact q1.elim
    | [_], _, q1 => exact q1.elim
    | [w1, w2], rp, q1 =>
      unfold Reps at rp
      obtain ⟨v1, s1, rfl, r1, rp⟩ := rp
      unfold Reps at rp
      obtain ⟨v2, s2, rfl, r2, rp⟩ := rp
      unfold Reps at rp
      subst rp
      exact ⟨v1, v2, rfl, q1 T1 H1 _ hr1 (Ex.rfl' hr1.ok) ((e1.put r1).put r2)⟩
    | _ :: _ :: _ :: _, _, q1 => exact q1.elim⟩
end Mi
end
section
namespace Mi
open PySem PySem.Spec PyProof.Rows L2
theorem out_no (P : Program) (w : World) (H : Hp) (s : Shared) (e : Value) (s' : Shared) : L2N.CX P w [] H s (fun _ _ _ => False) e s' -> False := fun ⟨_, _, _, _, _, _, _, _, _, _, _, _, z⟩ => z
abbrev h0 : MH := ⟨0, []⟩
def okT (r : R W) : Bool := match r with
  | .ok (.bl true) _ => true
  | _ => false
theorem seq_nx {a b : SM} {me me' : Me} {h h' : MH} (e : a me h = .nx me' h') : sSeq a b me h = b me' h' := by unfold sSeq; rw [e]
theorem seq_rt {a b : SM} {me : Me} {w : W} {h h' : MH} (e : a me h = .rt w h') : sSeq a b me h = .rt w h' := by unfold sSeq; rw [e]
variable {G : Kt} {X : Cx} {adr : Ad} {Y : WX}
mutual
def noRef : W -> Bool
  | .non => true
  | .bl _ => true
  | .int _ => true
  | .str _ => true
  | .tup ws => noRefs ws
  | .lst ws => noRefs ws
  | .dct ks vs => noRefs ks && noRefs vs
  | .ins _ _ fv => noRefs fv
  | .ref _ => false
  | .dvs ks vs => noRefs ks && noRefs vs
  | .ty _ => true
  | .cl _ => true
  | .scr _ => true
  | .kt0 => true
  | .lamO _ => true
  | .lam _ cs => noRefs cs
  | .exn _ fv => noRefs fv
def noRefs : List W -> Bool
  | [] => true
  | x :: r => noRef x && noRefs r
end
mutual
def refLt (n : Nat) : W -> Bool
  | .non => true
  | .bl _ => true
  | .int _ => true
  | .str _ => true
  | .tup ws => refLts n ws
  | .lst ws => refLts n ws
  | .dct ks vs => refLts n ks && refLts n vs
  | .ins _ _ fv => refLts n fv
  | .ref m => Nat.blt m n
  | .dvs ks vs => refLts n ks && refLts n vs
  | .ty _ => true
  | .cl _ => true
  | .scr _ => true
  | .kt0 => true
  | .lamO _ => true
  | .lam _ cs => refLts n cs
  | .exn _ fv => refLts n fv
def refLts (n : Nat) : List W -> Bool
  | [] => true
  | x :: r => refLt n x && refLts n r
end
mutual
theorem refLt_of (n : Nat) : ∀ w : W, noRef w = true -> refLt n w = true
  | .non, _ => rfl
  | .bl _, _ => rfl
  | .int _, _ => rfl
  | .str _, _ => rfl
  | .tup ws, k => by unfold noRef at k; unfold refLt; exact refLts_of n ws k
  | .lst ws, k => by unfold noRef at k; unfold refLt; exact refLts_of n ws k
  | .dct ks vs, k => by
    unfold noRef at k; unfold refLt
    obtain ⟨k1, k2⟩ := Bool.and_eq_true_iff.mp k
    rw [refLts_of n ks k1, refLts_of n vs k2]; rfl
  | .ins _ _ fv, k => by unfold noRef at k; unfold refLt; exact refLts_of n fv k
  | .ref _, k => by unfold noRef at k; cases k
  | .dvs ks vs, k => by
    unfold noRef at k; unfold refLt
    obtain ⟨k1, k2⟩ := Bool.and_eq_true_iff.mp k
    rw [refLts_of n ks k1, refLts_of n vs k2]; rfl
  | .ty _, _ => rfl
  | .cl _, _ => rfl
  | .scr _, _ => rfl
  | .kt0, _ => rfl
  | .lamO _, _ => rfl
  | .lam _ cs, k => by unfold noRef at k; unfold refLt; exact refLts_of n cs k
  | .exn _ fv, k => by unfold noRef at k; unfold refLt; exact refLts_of n fv k
theorem refLts_of (n : Nat) : ∀ ws : List W, noRefs ws = true -> refLts n ws = true
  | [], _ => rfl
  | x :: r, k => by
    unfold noRefs at k; unfold refLts
    obtain ⟨k1, k2⟩ := Bool.and_eq_true_iff.mp k
    rw [refLt_of n x k1, refLts_of n r k2]; rfl
end
mutual
theorem refLt_up {n n' : Nat} (le : n <= n') : ∀ w : W, refLt n w = true -> refLt n' w = true
  | .non, _ => rfl
  | .bl _, _ => rfl
  | .int _, _ => rfl
  | .str _, _ => rfl
  | .tup ws, k => by unfold refLt at k ⊢; exact refLts_up le ws k
  | .lst ws, k => by unfold refLt at k ⊢; exact refLts_up le ws k
  | .dct ks vs, k => by
    unfold refLt at k ⊢
    obtain ⟨k1, k2⟩ := Bool.and_eq_true_iff.mp k
    rw [refLts_up le ks k1, refLts_up le vs k2]; rfl
  | .ins _ _ fv, k => by unfold refLt at k ⊢; exact refLts_up le fv k
  | .ref m, k => by
    unfold refLt at k ⊢
    exact Nat.ble_eq_true_of_le (Nat.le_trans (Nat.le_of_ble_eq_true k) le)
  | .dvs ks vs, k => by
    unfold refLt at k ⊢
    obtain ⟨k1, k2⟩ := Bool.and_eq_true_iff.mp k
    rw [refLts_up le ks k1, refLts_up le vs k2]; rfl
  | .ty _, _ => rfl
  | .cl _, _ => rfl
  | .scr _, _ => rfl
  | .kt0, _ => rfl
  | .lamO _, _ => rfl
  | .lam _ cs, k => by unfold refLt at k ⊢; exact refLts_up le cs k
  | .exn _ fv, k => by unfold refLt at k ⊢; exact refLts_up le fv k
theorem refLts_up {n n' : Nat} (le : n <= n') : ∀ ws : List W, refLts n ws = true -> refLts n' ws = true
  | [], _ => rfl
  | x :: r, k => by
    unfold refLts at k ⊢
    obtain ⟨k1, k2⟩ := Bool.and_eq_true_iff.mp k
    rw [refLt_up le x k1, refLts_up le r k2]; rfl
end
abbrev Tie.cut (T : Tie) (n : Nat) : Tie := { ρ := fun m => if m < n then T.ρ m else none, nx := n, hid := T.hid, nm := T.nm }
theorem Fz.cut {T : Tie} {a : Addr} (f : Fz T a) (n : Nat) : Fz (T.cut n) a := by
  refine ⟨fun m e => ?_, f.hid⟩
  by_cases l : m < n
  · simp only [l, if_true] at e; exact f.own m e
  · simp only [l, if_false] at e; cases e
section
variable {T : Tie} {H : Hp} {n : Nat}
mutual
theorem repBelow : ∀ (w : W) (v : V), refLt n w = true -> Rep G T H w v -> Rep G (T.cut n) H w v
  | .non, v, _, h => h
  | .bl _, v, _, h => h
  | .int _, v, _, h => h
  | .str _, v, _, h => h
  | .tup ws, v, k, h => by
    unfold refLt at k
    unfold Rep at h ⊢
    obtain ⟨a, vs, e, f, q, r⟩ := h
    exact ⟨a, vs, e, f.cut n, q, repsBelow ws vs k r⟩
  | .lst ws, v, k, h => by
    unfold refLt at k
    unfold Rep at h ⊢
    obtain ⟨a, vs, e, f, q, r⟩ := h
    exact ⟨a, vs, e, f.cut n, q, repsBelow ws vs k r⟩
  | .dct ks vs, v, k, h => by
    unfold refLt at k
    obtain ⟨k1, k2⟩ := Bool.and_eq_true_iff.mp k
    unfold Rep at h ⊢
    obtain ⟨a, o, kv, vv, e, f, sm, ko, q, d, r1, r2⟩ := h
    exact ⟨a, o, kv, vv, e, f.cut n, sm, ko, q, d, repsBelow ks kv k1 r1, repsBelow vs vv k2 r2⟩
  | .ins c fn fv, v, k, h => by
    unfold refLt at k
    unfold Rep at h ⊢
    obtain ⟨a, dx, vv, e, f, f2, q, q2, l, r⟩ := h
    exact ⟨a, dx, vv, e, f.cut n, f2.cut n, q, q2, l, repsBelow fv vv k r⟩
  | .ref m, v, k, h => by
    unfold refLt at k
    have lt : m < n := Nat.le_of_ble_eq_true k
    unfold Rep at h ⊢
    refine ⟨lt, fun a e => h.2 a ?_⟩
    simp only [lt, if_true] at e
    exact e
  | .ty _, v, _, h => by unfold Rep at h ⊢; exact h
  | .cl _, v, _, h => by unfold Rep at h ⊢; exact h
  | .kt0, v, _, h => by unfold Rep at h ⊢; exact h
  | .lamO k, v, _, h => by
    unfold Rep at h ⊢
    obtain ⟨f, c, pm, ctv, e, ff, q, fc, qc⟩ := h
    exact ⟨f, c, pm, ctv, e, ff.cut n, q, fc.cut n, qc⟩
  | .lam k cs, v, k', h => by
    unfold refLt at k'
    unfold Rep at h ⊢
    obtain ⟨f, c, pm, ctv, vs, e, ff, q, fc, qc, cv, r⟩ := h
    exact ⟨f, c, pm, ctv, vs, e, ff.cut n, q, fc.cut n, qc, cv, repsBelow cs vs k' r⟩
  | .exn fn fv, v, k, h => by
    unfold refLt at k
    unfold Rep at h ⊢
    obtain ⟨vv, e, f, q, l, r⟩ := h
    exact ⟨vv, e, f.cut n, q, l, repsBelow fv vv k r⟩
  | .scr ns, v, _, h => by
    unfold Rep at h ⊢
    obtain ⟨a, e, q⟩ := h
    exact ⟨a, e, q.imp (fun q => ⟨q.1.cut n, q.2⟩) id⟩
  | .dvs ks vs, v, k, h => by
    unfold refLt at k
    obtain ⟨k1, k2⟩ := Bool.and_eq_true_iff.mp k
    unfold Rep at h ⊢
    obtain ⟨b, a, o, kv, vv, e, fb, qb, f, sm, ko, q, d, r1, r2⟩ := h
    exact ⟨b, a, o, kv, vv, e, fb.cut n, qb, f.cut n, sm, ko, q, d, repsBelow ks kv k1 r1, repsBelow vs vv k2 r2⟩
theorem repsBelow : ∀ (w : List W) (v : List V), refLts n w = true -> Reps G T H w v -> Reps G (T.cut n) H w v
  | [], v, _, h => h
  | y :: r, v, k, h => by
    unfold refLts at k
    obtain ⟨k1, k2⟩ := Bool.and_eq_true_iff.mp k
    unfold Reps at h ⊢
    obtain ⟨u, s, e, h1, h2⟩ := h
    exact ⟨u, s, e, repBelow y u k1 h1, repsBelow r s k2 h2⟩
end
end
theorem lookN_keep_some {k n : Nat} {o : O} : ∀ {l : List (Nat × O)}, lookN n (keepLt k l) = some o -> n < k
  | (m, u) :: r, e => by
    unfold keepLt at e
    cases q : Nat.ble k m with
    | true => rw [q] at e; exact lookN_keep_some e
    | false =>
      rw [q] at e
      unfold lookN at e
      cases z : Nat.beq n m with
      | true =>
        have nm : n = m := Nat.eq_of_beq_eq_true z
        subst nm
        exact Nat.lt_of_not_le fun le => by rw [Nat.ble_eq_true_of_le le] at q; cases q
      | false => rw [z] at e; exact lookN_keep_some e
end Mi
namespace Mi
open PySem PySem.Spec PyProof.Rows L2
variable {G : Kt} {X : Cx} {adr : Ad} {Y : WX}
def MH.cut (h h' : MH) : MH := ⟨h.nx, keepLt h.nx h'.l⟩
theorem hrel_cut {T T' : Tie} {h h' : MH} {H H' : Hp} (hr : Hrel G T h H) (hr' : Hrel G T' h' H') (x : Ex T T' H H')
    (ob : ∀ m o, lookN m (keepLt h.nx h'.l) = some o -> (match o with | .lst ws => refLts h.nx ws | .dct ks vs => refLts h.nx ks && refLts h.nx vs | .ins _ _ fv => refLts h.nx fv) = true) :
    Hrel G (T'.cut h.nx) (h.cut h') H' /\ Ex T (T'.cut h.nx) H H' := by
  have some_of : ∀ {m a}, (if m < h.nx then T'.ρ m else none) = some a -> m < h.nx /\ T'.ρ m = some a := fun {m a} z => by
    by_cases l : m < h.nx
    · simp only [l, if_true] at z; exact ⟨l, z⟩
    · simp only [l, if_false] at z; cases z
  have ok := hr'.ok
  refine ⟨⟨⟨fun m a z => (some_of z).1, fun m n a z1 z2 => ok.inj m n a (some_of z1).2 (some_of z2).2, fun n a z => ok.there n a (some_of z).2, fun n a z => ok.hid n a (some_of z).2, ok.hidT⟩, rfl, fun n o e => ?_, fun q hq => (hr'.tb q hq).to id (fun _ _ e => e) fun c n e => ⟨n.cut _, e⟩⟩,
    ⟨Nat.le_of_eq hr.nx, fun m hm => ?_, fun m a hm z => absurd (some_of z).1 (Nat.not_lt.mpr (by rw [<- hr.nx]; exact hm)), x.fz, x.there, x.hid, x.hidN, x.hidS, fun P q t => (x.tb P q t).to id (fun _ _ e => e) fun c n e => ⟨n.cut _, e⟩⟩⟩
  · have lt : n < h.nx := lookN_keep_some e
    obtain ⟨a, ea, r⟩ := hr'.obj n o (lookN_keepLt e)
    refine ⟨a, by simp only [lt, if_true]; exact ea, ?_⟩
    have nr := ob n o e
    cases o with
    | lst ws => obtain ⟨vs, e1, r⟩ := r; exact ⟨vs, e1, repsBelow _ _ nr r⟩
    | dct ks vs =>
      obtain ⟨k1, k2⟩ := Bool.and_eq_true_iff.mp nr
      obtain ⟨o, kv, vv, sm, ko, e1, d, r1, r2⟩ := r
      exact ⟨o, kv, vv, sm, ko, e1, d, repsBelow _ _ k1 r1, repsBelow _ _ k2 r2⟩
    | ins c fn fv => obtain ⟨dx, vv, f, e1, e2, l, r⟩ := r; exact ⟨dx, vv, f.cut _, e1, e2, l, repsBelow _ _ nr r⟩
  · show (if m < h.nx then T'.ρ m else none) = T.ρ m \/ (if m < h.nx then T'.ρ m else none) = none
    rw [if_pos (by rw [<- hr.nx]; exact hm)]
    exact x.old m hm
def noRefO : O -> Bool
  | .lst ws => noRefs ws
  | .dct ks vs => noRefs ks && noRefs vs
  | .ins _ _ fv => noRefs fv
def refLtO (n : Nat) : O -> Bool
  | .lst ws => refLts n ws
  | .dct ks vs => refLts n ks && refLts n vs
  | .ins _ _ fv => refLts n fv
def refLtL (n : Nat) : List (Nat × O) -> Bool
  | [] => true
  | (_, o) :: r => refLtO n o && refLtL n r
theorem refLtO_of (n : Nat) {o : O} (k : noRefO o = true) : refLtO n o = true := by
  cases o with
  | lst ws => exact refLts_of n ws k
  | dct ks vs =>
    obtain ⟨k1, k2⟩ := Bool.and_eq_true_iff.mp k
    show (refLts n ks && refLts n vs) = true
    rw [refLts_of n ks k1, refLts_of n vs k2]; rfl
  | ins c fn fv => exact refLts_of n fv k
theorem refLtO_up {n n' : Nat} (le : n <= n') {o : O} (k : refLtO n o = true) : refLtO n' o = true := by
  cases o with
  | lst ws => exact refLts_up le ws k
  | dct ks vs =>
    obtain ⟨k1, k2⟩ := Bool.and_eq_true_iff.mp k
    show (refLts n' ks && refLts n' vs) = true
    rw [refLts_up le ks k1, refLts_up le vs k2]; rfl
  | ins c fn fv => exact refLts_up le fv k
theorem refLtL_up {n n' : Nat} (le : n <= n') : ∀ {l : List (Nat × O)}, refLtL n l = true -> refLtL n' l = true
  | [], _ => rfl
  | (_, o) :: r, k => by
    unfold refLtL at k ⊢
    obtain ⟨k1, k2⟩ := Bool.and_eq_true_iff.mp k
    rw [refLtO_up le k1, refLtL_up le k2]; rfl
theorem refLtL_look {k n : Nat} {o : O} : ∀ {l : List (Nat × O)}, refLtL k l = true -> lookN n l = some o -> refLtO k o = true
  | (m, u) :: r, q, e => by
    unfold refLtL at q
    obtain ⟨k1, k2⟩ := Bool.and_eq_true_iff.mp q
    unfold lookN at e
    cases z : Nat.beq n m with
    | true => rw [z] at e; cases e; exact k1
    | false => rw [z] at e; exact refLtL_look k2 e
def rsH (h : MH) (w : W) (h' : MH) : MH := match noRef w && refLtL h.nx (keepLt h.nx h'.l) with
  | true => h.cut h'
  | false => h'
theorem rsH_ok {T T' : Tie} {h h' : MH} {H H' : Hp} {w : W} {v : V} (hr : Hrel G T h H) (hr' : Hrel G T' h' H') (x : Ex T T' H H') (rp : Rep G T' H' w v) : ∃ T'', Hrel G T'' (rsH h w h') H' /\ Ex T T'' H H' /\ Rep G T'' H' w v := by
  unfold rsH
  cases k : (noRef w && refLtL h.nx (keepLt h.nx h'.l)) with
  | false => exact ⟨T', hr', x, rp⟩
  | true =>
    obtain ⟨k1, k2⟩ := Bool.and_eq_true_iff.mp k
    obtain ⟨a, b⟩ := hrel_cut hr hr' x fun m o e => refLtL_look k2 e
    exact ⟨_, a, b, repBelow _ _ (refLt_of _ _ k1) rp⟩
def rsR (h : MH) (r : R W) : R W := match r with
  | .ok w h' => .ok w (rsH h w h')
  | r => r
def rsF (mf : FM) : FM := fun ws h => rsR h (mf ws h)
def mRs (m : EM) : EM := fun me h => rsR h (m me h)
theorem me_rs {e : Expr} {m : EM} (he : ME X adr Y e m) : ME X adr Y e (mRs m) := pe_imp he fun σ H Q ⟨T, me, h, hr, hE, q⟩ => ⟨T, me, h, hr, hE, by
  unfold mRs rsR at q
  cases em : m me h with
  | exc _ _ => rw [em] at q; exact q
  | stuck => rw [em] at q; exact q
  | ok w h' =>
    rw [em] at q
    intro T' H' v hr' x' rp
    obtain ⟨T2, a, b, c⟩ := rsH_ok hr hr' x' rp
    exact q T2 H' v a b c⟩
section
variable {P : Program} {w : World} {K : PySem.W.Frag} {mg : Str -> Option Value} {base : Heap}
theorem fn_rs {k : Nat} {f : Addr} {fd : FuncData} {ps : List Str} {mf : FM} (F : FnOk P w K mg base (L2N.CX P w) k f fd ps (spM ⟨P, w, K, adr⟩ mf)) : FnOk P w K mg base (L2N.CX P w) k f fd ps (spM ⟨P, w, K, adr⟩ (rsF mf)) :=
  F.imp fun vs H Q E ⟨T, ws, h, hr, rp, q⟩ => ⟨T, ws, h, hr, rp, by
    unfold rsF rsR at q
    cases em : mf ws h with
    | exc _ _ => rw [em] at q; exact q
    | stuck => rw [em] at q; exact q
    | ok w' h' =>
      rw [em] at q
      intro T' H' v hr' x' rp
      obtain ⟨T2, a, b, c⟩ := rsH_ok hr hr' x' rp
      exact q T2 H' v a b c⟩
end
def sFrz (i : Nat) : SM := fun me h => match nth me i with
  | some (.ref n) => match h.get n with
    | some o => .nx (put me i o.toW) (h.del n)
    | none => .stuck
  | _ => .nx me h
theorem ms_frz {rest : List Stmt} {i : Nat} {b : SM} (hb : MSs X adr Y rest b) : MSs X adr Y rest (sSeq (sFrz i) b) := pss_imp hb fun D σ H ⟨T, me, h, hr, hE, q⟩ => by
  unfold sSeq sFrz at q
  cases en : nth me i with
  | none => simp only [en] at q; exact ⟨T, me, h, hr, hE, q⟩
  | some w =>
    cases w with
    | ref n =>
      simp only [en] at q
      cases eg : h.get n with
      | none => simp only [eg] at q; exact q.elim
      | some o =>
        simp only [eg] at q
        obtain ⟨v, ev, rp⟩ := hE.2 i _ en
        obtain ⟨hr2, x2, r2⟩ := freeze hr eg rp
        have e3 := (hE.ex x2).put (i := i) r2
        refine ⟨_, _, _, hr2, ?_, q.ex x2⟩
        have es : σ.set i (some v) = σ := by
          apply List.ext_getElem?
          intro j
          by_cases hj : j = i
          · subst hj
            rw [List.getElem?_set_self (List.getElem?_eq_some_iff.mp ev).1, ev]
          · rw [List.getElem?_set_ne (Ne.symm hj)]
        rw [es] at e3
        exact e3
    | _ => simp only [en] at q; exact ⟨T, me, h, hr, hE, q⟩
end Mi
end
section
namespace Mi
open PySem PySem.Spec PyProof.Rows L2
variable {G : Kt} {X : Cx} {adr : Ad} {Y : WX}
def wFdivW : F2 := fun a b _ => match a, b with
  | .int i, .int j => wIf (decide (0 < j) && Nat.blt j.natAbs (2 ^ 1000)) (.int (i / j))
  | _, _ => none
theorem mo_fdivW : MO X adr (binaryOp .FloorDiv) wFdivW := MO.mk fun w1 w2 h w e => by
  unfold wFdivW at e
  split at e
  · obtain ⟨l, rfl⟩ := wIf_is e
    rw [Bool.and_eq_true] at l
    exact ⟨_, op_fdivW, fun T H v1 v2 Q hr r1 r2 q => ⟨_, _, rep_int r1, rep_int r2, wide_div (b := 1000) (of_decide_eq_true l.1) (Nat.le_of_ble_eq_true l.2) (by decide) (by decide), q.int hr⟩⟩
  · cases e
def wMax2 : FA := fun ws _ => match ws with
  | [.int i, .int j] => some (.int (if j > i then j else i))
  | _ => none
def wMin2 : FA := fun ws _ => match ws with
  | [.int i, .int j] => some (.int (if j < i then j else i))
  | _ => none
theorem mc_max2 (hc : X.calm = true) : MC X adr (.builtin "max") wMax2 := MC.mk fun ws h w e => by
  unfold wMax2 at e
  split at e
  · cases e
    refine ⟨_, call_max2 hc, fun T H vs Q hr rs q => ?_⟩
    rw [reps_int2 rs]
    exact ⟨_, _, rfl, Hands.int hr q⟩
  · cases e
theorem mc_min2 (hc : X.calm = true) : MC X adr (.builtin "min") wMin2 := MC.mk fun ws h w e => by
  unfold wMin2 at e
  split at e
  · cases e
    refine ⟨_, call_min2 hc, fun T H vs Q hr rs q => ?_⟩
    rw [reps_int2 rs]
    exact ⟨_, _, rfl, Hands.int hr q⟩
  · cases e
def setW : List W -> Nat -> W -> List W
  | [], _, _ => []
  | _ :: r, 0, w => w :: r
  | x :: r, n + 1, w => x :: setW r n w
theorem reps_set {T : Tie} {H : Hp} {w : W} {v : V} (rw : Rep G T H w v) : ∀ {ws : List W} {vs : List V} (k : Nat), Reps G T H ws vs -> Reps G T H (setW ws k w) (vs.set k v)
  | [], vs, k, r => by unfold Reps at r; subst r; unfold setW; simpa using Reps.nil
  | y :: ws, vs, 0, r => by
    unfold Reps at r
    obtain ⟨u, s, rfl, r1, r2⟩ := r
    exact Reps.cons rw r2
  | y :: ws, vs, k + 1, r => by
    unfold Reps at r
    obtain ⟨u, s, rfl, r1, r2⟩ := r
    exact Reps.cons r1 (reps_set rw k r2)
def sPutLEnd (me : Me) (w d k : W) (h : MH) : RS := match d with
  | .ref n => match h.get n with
    | some (.lst ws) => match k with
      | .int i => match ixN ws.length i with
        | some j => .nx me (h.set n (.lst (setW ws j w)))
        | none => .stuck
      | _ => .stuck
    | _ => .stuck
  | _ => .stuck
def sPutL (mo mi mv : EM) : SM := fun me h => .ofE me (mv me h) fun w h => .ofE me (mo me h) fun d h => .ofE me (mi me h) fun k h => sPutLEnd me w d k h
theorem ms_putL {o i value : Expr} {mo mi mv : EM} {pos pos' : Pos} (ho : ME X adr Y o mo) (hi : ME X adr Y i mi) (hv : ME X adr Y value mv) (hs : swapsWith value (some (.Subscript o i pos')) pos.line X.env = pure false) :
    MS X adr Y (.Assign [.Subscript o i pos'] value pos) (sPutL mo mi mv) := by
  refine ⟨fun pins s σ H D I ⟨T, me, h, hr, hE, q⟩ => ?_⟩
  refine wpAny_Assign_Subscript (thn (hv.run pins s σ H (fun v1 H1 => ∃ T1 h1 w1, Hrel (kt X adr) T1 h1 H1 /\ Erel (kt X adr) T1 me σ H1 /\ Rep (kt X adr) T1 H1 w1 v1 /\ ResS (kt X adr) Y T1 H1 (.ofE me (mo me h1) fun d h => .ofE me (mi me h) fun k h => sPutLEnd me w1 d k h) D) I
    ⟨T, me, h, hr, hE, ResS.bindE hE q fun w1 h1 _ T1 H1 v1 hr1 x1 rp1 hE1 q1 => ⟨T1, h1, w1, hr1, hE1, rp1, q1⟩⟩) fun r s1 ⟨v1, H1, I1, rv1, T1, h1, w1, hr1, hE1, rp1, q1⟩ => ?_) hs
  refine thn (ho.run pins s1 σ H1 (fun v2 H2 => ∃ T2 h2 w2, Hrel (kt X adr) T2 h2 H2 /\ Erel (kt X adr) T2 me σ H2 /\ Ex T1 T2 H1 H2 /\ Rep (kt X adr) T2 H2 w2 v2 /\ ResS (kt X adr) Y T2 H2 (.ofE me (mi me h2) fun k h => sPutLEnd me w1 w2 k h) D) I1
    ⟨T1, me, h1, hr1, hE1, ResS.bindE hE1 q1 fun w2 h2 _ T2 H2 v2 hr2 x2 rp2 hE2 q2 => ⟨T2, h2, w2, hr2, hE2, x2, rp2, q2⟩⟩) fun u s2 ⟨v2, H2, I2, rv2, T2, h2, w2, hr2, hE2, x2, rp2, q2⟩ => ?_
  refine thn (hi.run pins s2 σ H2 (fun v3 H3 => ∃ T3 h3 w3, Hrel (kt X adr) T3 h3 H3 /\ Erel (kt X adr) T3 me σ H3 /\ Ex T2 T3 H2 H3 /\ Rep (kt X adr) T3 H3 w3 v3 /\ ResS (kt X adr) Y T3 H3 (sPutLEnd me w1 w2 w3 h3) D) I2
    ⟨T2, me, h2, hr2, hE2, ResS.bindE hE2 q2 fun w3 h3 _ T3 H3 v3 hr3 x3 rp3 hE3 q3 => ⟨T3, h3, w3, hr3, hE3, x3, rp3, q3⟩⟩) fun iv s3 ⟨v3, H3, I3, rv3, T3, h3, w3, hr3, hE3, x3, rp3, q3⟩ => ?_
  unfold sPutLEnd at q3
  have rp1' := rep_ex x3 _ _ (rep_ex x2 _ _ rp1)
  have rp2' := rep_ex x3 _ _ rp2
  split at q3
  · rename_i n
    split at q3
    · rename_i ws eg
      split at q3
      · rename_i k
        split at q3
        · rename_i j ej
          obtain ⟨a, ea, vs, e4, r4⟩ := hr3.obj _ _ eg
          unfold Rep at rp2' rp3
          have e5 := rp2'.2 a ea
          refine thn (set_list pins s3 σ H3 v2 v3 v1 u iv r (fun H4 => ∃ T4 h4, Hrel (kt X adr) T4 h4 H4 /\ Erel (kt X adr) T4 me σ H4 /\ ResS (kt X adr) Y T4 H4 (.nx me h4) D) I3 rv2 rv3 rv1 ?_) fun _ s4 ⟨H4, I4, T4, h4, hr4, e6, q4⟩ => ⟨σ, H4, I4, q4 T4 H4 σ hr4 (Ex.rfl' hr4.ok) e6⟩
          refine ⟨a, vs, k, j, e5, rp3, e4, by rw [<- r4.length]; exact ej, ?_⟩
          obtain ⟨hr5, x5⟩ := box_set (ho := .lst (vs.set j v1)) (o := .lst (setW ws j w1)) hr3 eg ea ⟨_, upd_same, reps_upd hr3.ok ea (reps_set rp1' j r4)⟩
          exact ⟨T3, _, hr5, hE3.ex x5, q3.ex x5⟩
        · exact q3.elim
      · exact q3.elim
    · exact q3.elim
  · exact q3.elim
def rangeCW (lo c : Int) : Nat -> List W
  | 0 => []
  | n + 1 => .int lo :: rangeCW (lo + c) c n
theorem rangeCW_len : ∀ (lo c : Int) (n : Nat), (rangeCW lo c n).length = n
  | _, _, 0 => rfl
  | lo, c, n + 1 => by simp [rangeCW, rangeCW_len (lo + c) c n]
theorem rangeCW_get : ∀ (lo c : Int) (n i : Nat) (w : W), (rangeCW lo c n)[i]? = some w -> w = .int (lo + i * c)
  | _, _, 0, i, w, h => by simp [rangeCW] at h
  | lo, c, n + 1, 0, w, h => by simp [rangeCW] at h; subst h; simp
  | lo, c, n + 1, i + 1, w, h => by
    simp only [rangeCW, List.getElem?_cons_succ] at h
    rw [rangeCW_get (lo + c) c n i w h]
    congr 1
    rw [Int.natCast_add, Int.add_mul]
    omega
theorem wk_rangeC {T : Tie} {H : Hp} (lo c : Int) (n : Nat) : Wk G T H (rangeCW lo c n) (Itc lo c n) where
  go := fun T' H' i ok x' hi => by rw [rangeCW_len] at hi; exact hi
  stop := fun T' H' ok x' => by rw [rangeCW_len]; exact Nat.le_refl _
  yld := fun T' H' i y H'' h w hr x' ew yl => by
    obtain ⟨rfl, rfl⟩ := yl
    obtain rfl := rangeCW_get _ _ _ _ _ ew
    exact ⟨hr, Ex.rfl' hr.ok, by unfold Rep; rfl⟩
def mRng3 (as : AM) : AM := fun me h => (as me h).bind fun xs h => match xs with
  | [.int i, .int j, .int c] => match decide (c ≠ 0) && (Nat.blt c.natAbs 1073741824 && (Builtin.Range.small i j c && decide (0 <= Builtin.Range.rangeSize i j c))) with
    | true => .ok (rangeCW i c (Builtin.Range.rangeSize i j c).toNat) h
    | false => .stuck
  | _ => .stuck
theorem reps_int3 {T : Tie} {H : Hp} {i j k : Int} {vs : List V} (r : Reps G T H [.int i, .int j, .int k] vs) : vs = [.int i, .int j, .int k] := by
  unfold Reps at r
  obtain ⟨v, s, rfl, h, r⟩ := r
  unfold Rep at h
  rw [reps_int2 r, h]
theorem mi_range3 {tg a b c : Expr} {as : AM} {p pos : Pos} (hg : Gl X "range") (hm : X.mg "range" = none) (ha : MA X adr Y [a, b, c] as) (hs : starEach [a, b, c] X.env = (false, eval a X.env) :: starEach [b, c] X.env := by rfl) (hpl : (backTo pos (starEach [b, c] X.env)).any (·.1) = false := by rfl) : MI X adr Y tg (.Call (.Name "range" p) [a, b, c] [] pos) (mRng3 as) :=
  pi_imp (pi_range3 hg hm ha hs hpl) fun σ H R ⟨T, me, h, hr, hE, q⟩ => ⟨T, me, h, hr, hE, Res.bind q fun ws h1 _ T1 H1 vs hr1 x1 rp1 q1 => by
    split at q1
    · split at q1
      · rename_i i j c _ _ e
        simp only [Bool.and_eq_true, decide_eq_true_iff] at e
        obtain ⟨e1, e2, e3, e4⟩ := e
        obtain rfl := reps_int3 rp1
        exact ⟨i, j, c, (Builtin.Range.rangeSize i j c).toNat, rfl, ⟨e1, Nat.le_of_ble_eq_true e2, e3, (Int.toNat_of_nonneg e4).symm⟩, q1 T1 H1 _ hr1 (Ex.rfl' hr1.ok) (wk_rangeC i c _)⟩
      · exact q1.elim
    · exact q1.elim⟩
end Mi
end
section
namespace Mi
open PySem PySem.Spec PyProof.Rows L2
structure MH.Ok (h : MH) : Prop where
  lt : keepLt h.nx h.l = h.l
  nr : refLtL h.nx h.l = true
theorem MH.Ok.cut {h : MH} (ok : h.Ok) : h.cut h = h := by
  unfold MH.cut
  rw [ok.lt]
theorem MH.Ok.back {h : MH} (ok : h.Ok) : h.back h.nx = h := by
  unfold MH.back
  rw [ok.lt]
theorem ok0 : h0.Ok := ⟨rfl, rfl⟩
theorem keepLt_keep (k : Nat) : ∀ l : List (Nat × O), keepLt k (keepLt k l) = keepLt k l
  | [] => rfl
  | (m, o) :: r => by
    cases e : Nat.ble k m with
    | true => simp only [keepLt, e]; exact keepLt_keep k r
    | false => simp only [keepLt, e]; rw [keepLt_keep k r]
def MH.Over (h h' : MH) : Prop := keepLt h.nx h'.l = h.l
theorem MH.Ok.over {h : MH} (ok : h.Ok) : h.Over h := ok.lt
theorem rs_over {h h' : MH} (ok : h.Ok) (ov : h.Over h') {w : W} (nr : noRef w = true) : rsH h w h' = h := by
  unfold rsH
  have e : keepLt h.nx h'.l = h.l := ov
  rw [e, nr, ok.nr]
  show h.cut h' = h
  unfold MH.cut
  rw [e]
theorem back_over {h h' : MH} (ov : h.Over h') : h.Over (h'.back h.nx) := by
  unfold MH.Over MH.back
  rw [keepLt_keep]
  exact ov
theorem fn_rt {np nl : Nat} {body : SM} {ws : List W} {v : W} {h h' : MH} (ok : h.Ok) (hl : ws.length = np) (ov : h.Over h') (nr : noRef v = true) (hb : body (padM nl ws) h = .rt v h') : rsF (mDef np nl true body) ws h = .ok v h := by
  unfold rsF rsR mDef
  have e : Nat.beq ws.length np = true := by rw [hl]; exact Nat.beq_refl _
  simp only [e, hb]
  rw [rs_over ok (back_over ov) nr]
@[simp] theorem bind_ok {α β : Type} (a : α) (h : MH) (f : α -> MH -> R β) : (R.ok a h).bind f = f a h := rfl
@[simp] theorem ofE_ok (me : Me) (w : W) (h : MH) (f : W -> MH -> RS) : RS.ofE me (.ok w h) f = f w h := rfl
@[simp] theorem ofA_ok (me : Me) (w : List W) (h : MH) (f : List W -> MH -> RS) : RS.ofA me (.ok w h) f = f w h := rfl
@[simp] theorem ofO_some {α : Type} (a : α) (h : MH) : ofO (some a) h = .ok a h := rfl
@[simp] theorem nox_ok {α : Type} (a : α) (h : MH) : (R.ok a h).nox = .ok a h := rfl
@[simp] theorem mC_eq (w : W) (me : Me) (h : MH) : mC w me h = .ok w h := rfl
theorem seq_go {a b : SM} {me me' : Me} {h h' : MH} {r : RS} (e : a me h = .nx me' h') (e2 : b me' h' = r) : sSeq a b me h = r := (seq_nx e).trans e2
theorem set_go {i : Nat} {m : EM} {me : Me} {w : W} {h h' : MH} (e : m me h = .ok w h') : sSet i m me h = .nx (put me i w) h' := by
  unfold sSet; rw [e]; rfl
theorem ret_go {m : EM} {me : Me} {w : W} {h h' : MH} (e : m me h = .ok w h') : sRet m me h = .rt w h' := by
  unfold sRet; rw [e]; rfl
theorem expr_go {m : EM} {me : Me} {w : W} {h h' : MH} (e : m me h = .ok w h') : sExpr m me h = .nx me h' := by
  unfold sExpr; rw [e]; rfl
theorem if_go {t : EM} {a b : SM} {me : Me} {k : Bool} {h h' : MH} (e : t me h = .ok (.bl k) h') : sIf t a b me h = if k then a me h' else b me h' := by
  unfold sIf; rw [e]; cases k <;> rfl
theorem if_t {t : EM} {a b : SM} {me : Me} {h h' : MH} {r : RS} (e : t me h = .ok (.bl true) h') (e2 : a me h' = r) : sIf t a b me h = r := by
  rw [if_go e]; exact e2
theorem if_f {t : EM} {a b : SM} {me : Me} {h h' : MH} {r : RS} (e : t me h = .ok (.bl false) h') (e2 : b me h' = r) : sIf t a b me h = r := by
  rw [if_go e]; exact e2
theorem call_go {mf : FM} {dws : List W} {as : AM} {me : Me} {ws : List W} {h h' : MH} {r : R W} (e : as me h = .ok ws h') (e2 : mf (ws ++ dws) h' = r) : mCall mf dws as me h = r := by
  unfold mCall; rw [e]; exact e2
theorem cons_go {a : EM} {r : AM} {me : Me} {w : W} {ws : List W} {h h1 h2 : MH} (e : a me h = .ok w h1) (e2 : r me h1 = .ok ws h2) : mCons a r me h = .ok (w :: ws) h2 := by
  unfold mCons; rw [e]; simp only [bind_ok]; rw [e2]; rfl
theorem nil_go {me : Me} {h : MH} : mNil me h = .ok [] h := rfl
theorem bin_go {f : F2} {a b : EM} {me : Me} {x y z : W} {h h1 h2 : MH} (e : a me h = .ok x h1) (e2 : b me h1 = .ok y h2) (e3 : f x y h2 = some z) : mBin f a b me h = .ok z h2 := by
  unfold mBin; rw [e]; simp only [bind_ok]; rw [e2]; simp only [bind_ok]; rw [e3]; rfl
theorem cb_go {f : FA} {as : AM} {me : Me} {ws : List W} {z : W} {h h1 : MH} (e : as me h = .ok ws h1) (e3 : f ws h1 = some z) : mCallB f as me h = .ok z h1 := by
  unfold mCallB; rw [e]; simp only [bind_ok]; rw [e3]; rfl
theorem and_go {a b : EM} {me : Me} {k l : Bool} {h h1 : MH} (e : a me h = .ok (.bl k) h1) (e2 : k = true -> b me h1 = .ok (.bl l) h1) : mAnd a b me h = .ok (.bl (k && l)) h1 := by
  unfold mAnd; rw [e]
  cases k with
  | true => exact e2 rfl
  | false => rfl
theorem or_go {a b : EM} {me : Me} {k l : Bool} {h h1 : MH} (e : a me h = .ok (.bl k) h1) (e2 : k = false -> b me h1 = .ok (.bl l) h1) : mOr a b me h = .ok (.bl (k || l)) h1 := by
  unfold mOr; rw [e]
  cases k with
  | true => rfl
  | false => exact e2 rfl
theorem not_go {a : EM} {me : Me} {k : Bool} {h h1 : MH} (e : a me h = .ok (.bl k) h1) : mNot a me h = .ok (.bl (!k)) h1 := by
  unfold mNot; rw [e]; rfl
theorem tup_go {as : AM} {me : Me} {ws : List W} {h h1 : MH} (e : as me h = .ok ws h1) (l : lenLe ws.length = true) : mTup as me h = .ok (.tup ws) h1 := by
  unfold mTup; rw [e]; simp only [bind_ok]; rw [l]; rfl
theorem lst_go {as : AM} {me : Me} {ws : List W} {h h1 : MH} (e : as me h = .ok ws h1) (l : lenLe ws.length = true) : mLst as me h = .ok (.lst ws) h1 := by
  unfold mLst; rw [e]; simp only [bind_ok]; rw [l]; rfl
theorem seqm_go {m : EM} {me : Me} {w : W} {ws : List W} {h h1 : MH} (e : m me h = .ok w h1) (l : itemsOf w = some ws) : mSeq m me h = .ok ws h1 := by
  unfold mSeq; rw [e]; simp only [bind_ok]; rw [l]; rfl
theorem zip_go {as : AM} {me : Me} {a b : W} {u v : List W} {h h1 : MH} (e : as me h = .ok [a, b] h1) (l : itemsOf a = some u) (l2 : itemsOf b = some v) : mZip as me h = .ok (zipW u v) h1 := by
  unfold mZip; rw [e]; simp only [bind_ok, l, l2]
theorem lc_map {α : Type} {enc f : α -> W} {p : α -> Bool} {g : GM} {t e : EM} {me0 : Me} {h : MH} : ∀ {xs : List α} {acc : List W},
    (∀ x ∈ xs, ∃ me, g (enc x) me0 = some me /\ t me h = .ok (.bl (p x)) h /\ (p x = true -> e me h = .ok (f x) h)) ->
    lcM g t e me0 (xs.map enc) acc h = .ok (((xs.filter p).map f).reverse ++ acc) h
  | [], acc, _ => by simp [lcM]
  | x :: xs, acc, hb => by
    obtain ⟨me, e1, e2, e3⟩ := hb x List.mem_cons_self
    have ih := fun acc => lc_map (xs := xs) (acc := acc) fun y hy => hb y (List.mem_cons_of_mem _ hy)
    rw [List.map_cons, lcM]
    simp only [e1, e2, nox_ok, bind_ok]
    cases hp : p x with
    | true =>
      simp only [e3 hp, nox_ok, bind_ok, ih, List.filter_cons_of_pos hp, List.map_cons, List.reverse_cons, List.append_assoc, List.singleton_append]
    | false =>
      have hp' : ¬ p x = true := by rw [hp]; exact Bool.false_ne_true
      simp only [ih, List.filter_cons_of_neg hp']
theorem lc_go {α : Type} {enc f : α -> W} {p : α -> Bool} {src : AM} {g : GM} {t e : EM} {vs : List Nat} {me : Me} {h h1 : MH} {xs : List α} (hs : src me h = .ok (xs.map enc) h1) (hl : xs.length < 16777216)
    (hb : ∀ x ∈ xs, ∃ me1, g (enc x) (wipeW me vs) = some me1 /\ t me1 h1 = .ok (.bl (p x)) h1 /\ (p x = true -> e me1 h1 = .ok (f x) h1)) : mLc src g t e vs me h = .ok (.lst ((xs.filter p).map f)) h1 := by
  unfold mLc
  rw [hs]
  have l : lenOk (xs.map enc) = true := by
    unfold lenOk
    rw [List.length_map]
    exact Nat.ble_eq_true_of_le hl
  simp only [bind_ok, l, lc_map hb, rev_eq]
  simp
theorem lc_all {α : Type} {enc f : α -> W} {src : AM} {g : GM} {e : EM} {vs : List Nat} {me : Me} {h h1 : MH} {xs : List α} (hs : src me h = .ok (xs.map enc) h1) (hl : xs.length < 16777216)
    (hb : ∀ x ∈ xs, ∃ me1, g (enc x) (wipeW me vs) = some me1 /\ e me1 h1 = .ok (f x) h1) : mLc src g yes e vs me h = .ok (.lst (xs.map f)) h1 := by
  have := lc_go (p := fun _ => true) (t := yes) hs hl fun x hx => let ⟨me1, a, b⟩ := hb x hx; ⟨me1, a, rfl, fun _ => b⟩
  rw [List.filter_eq_self.mpr (fun _ _ => rfl)] at this
  exact this
structure Enc {α : Type} [DecidableEq α] (d : Nat) (e : α -> W) : Prop where
  eq : ∀ n a b, d <= n -> weq n (e a) (e b) = some (decide (a = b))
  pl : ∀ a h, dctOf (e a) h = none /\ ∀ n, e a ≠ .ref n
  nr : ∀ a, noRef (e a) = true
theorem enc_int : Enc 1 (fun i : Int => W.int i) := ⟨fun n a b hn => by
  obtain ⟨m, rfl⟩ : ∃ m, n = m + 1 := ⟨n - 1, by omega⟩
  rfl, fun a h => ⟨rfl, fun n e => nomatch e⟩, fun _ => rfl⟩
theorem enc_str : Enc 1 (fun s : Str => W.str s) := ⟨fun n a b hn => by
  obtain ⟨m, rfl⟩ : ∃ m, n = m + 1 := ⟨n - 1, by omega⟩
  show some (strEq a b) = _
  rw [strEq_eq], fun a h => ⟨rfl, fun n e => nomatch e⟩, fun _ => rfl⟩
theorem weqL_map {α : Type} [DecidableEq α] {d n : Nat} {e : α -> W} (E : Enc d e) (hn : d <= n) : ∀ (xs ys : List α), weqL (weq n) (xs.map e) (ys.map e) = some (decide (xs = ys))
  | [], [] => by simp [weqL]
  | [], y :: ys => by simp [weqL]
  | x :: xs, [] => by simp [weqL]
  | x :: xs, y :: ys => by
    rw [List.map_cons, List.map_cons, weqL, E.eq n x y hn]
    simp only
    rw [weqL_map E hn xs ys]
    simp only
    congr 1
    by_cases h1 : x = y <;> by_cases h2 : xs = ys <;> simp [h1, h2]
theorem noRefs_map {α : Type} [DecidableEq α] {d : Nat} {e : α -> W} (E : Enc d e) : ∀ xs : List α, noRefs (xs.map e) = true
  | [] => rfl
  | x :: xs => by rw [List.map_cons, noRefs, E.nr, noRefs_map E xs]; rfl
theorem enc_tup {α : Type} [DecidableEq α] {d : Nat} {e : α -> W} (E : Enc d e) : Enc (d + 1) (fun l : List α => W.tup (l.map e)) := ⟨fun n a b hn => by
  obtain ⟨m, rfl⟩ : ∃ m, n = m + 1 := ⟨n - 1, by omega⟩
  show weqL (weq m) _ _ = _
  exact weqL_map E (by omega) a b, fun a h => ⟨rfl, fun n e => nomatch e⟩, fun a => by rw [noRef]; exact noRefs_map E a⟩
theorem enc_lst {α : Type} [DecidableEq α] {d : Nat} {e : α -> W} (E : Enc d e) : Enc (d + 1) (fun l : List α => W.lst (l.map e)) := ⟨fun n a b hn => by
  obtain ⟨m, rfl⟩ : ∃ m, n = m + 1 := ⟨n - 1, by omega⟩
  show weqL (weq m) _ _ = _
  exact weqL_map E (by omega) a b, fun a h => ⟨rfl, fun n e => nomatch e⟩, fun a => by rw [noRef]; exact noRefs_map E a⟩
theorem enc_pair {α β : Type} [DecidableEq α] [DecidableEq β] {d d' : Nat} {e : α -> W} {e' : β -> W} (E : Enc d e) (E' : Enc d' e') : Enc (max d d' + 1) (fun p : α × β => W.tup [e p.1, e' p.2]) := ⟨fun n a b hn => by
  obtain ⟨m, rfl⟩ : ∃ m, n = m + 1 := ⟨n - 1, by omega⟩
  show weqL (weq m) [e a.1, e' a.2] [e b.1, e' b.2] = _
  rw [weqL, E.eq m _ _ (by omega)]
  simp only
  rw [weqL, E'.eq m _ _ (by omega)]
  simp only [weqL]
  congr 1
  obtain ⟨a1, a2⟩ := a
  obtain ⟨b1, b2⟩ := b
  by_cases h1 : a1 = b1 <;> by_cases h2 : a2 = b2 <;> simp [h1, h2], fun a h => ⟨rfl, fun n e => nomatch e⟩, fun a => by rw [noRef, noRefs, noRefs, noRefs, E.nr, E'.nr]; rfl⟩
section
variable {α : Type} [DecidableEq α] {d : Nat} {e : α -> W}
theorem winL_map (E : Enc d e) (hd : d <= 30) (a : α) : ∀ l : List α, winL (weq 30) (e a) (l.map e) = some (decide (a ∈ l))
  | [] => by simp [winL]
  | y :: l => by
    rw [List.map_cons, winL, E.eq 30 y a hd]
    simp only
    rw [winL_map E hd a l]
    simp only
    congr 1
    by_cases h1 : a = y
    · simp [h1]
    · by_cases h2 : a ∈ l <;> simp [h1, h2, Ne.symm h1]
theorem in_tup (E : Enc d e) (hd : d <= 30) (neg : Bool) (a : α) (l : List α) (h : MH) : wIn neg (e a) (.tup (l.map e)) h = some (.bl (xor neg (decide (a ∈ l)))) := by
  show (match winL (weq 30) (e a) (l.map e) with | some k => some (W.bl (xor neg k)) | none => none) = _
  rw [winL_map E hd]
theorem cmp_enc (E : Enc d e) (hd : d <= 30) (neg : Bool) (a b : α) (h : MH) : wCmpB neg (e a) (e b) h = some (.bl (xor neg (decide (a = b)))) := by
  have k : wCmpD neg (e a) (e b) h = some (.bl (xor neg (decide (a = b)))) := by
    unfold wCmpD
    rw [(E.pl a h).1, (E.pl b h).1]
    simp only
    rw [E.eq 30 a b hd]
  unfold wCmpB
  split
  · exact absurd (by assumption) ((E.pl a h).2 _)
  · exact absurd (by assumption) ((E.pl a h).2 _)
  · exact k
end
theorem anyB_map {α : Type} (p : α -> Bool) : ∀ l : List α, blsOf (l.map fun x => W.bl (p x)) = some (l.map p)
  | [] => rfl
  | x :: l => by rw [List.map_cons, blsOf]; simp only [anyB_map p l]; rfl
theorem all_go {α : Type} (p : α -> Bool) (l : List α) (h : MH) : wAll [.lst (l.map fun x => W.bl (p x))] h = some (.bl (l.all p)) := by
  show (match blsOf (l.map fun x => W.bl (p x)) with | some bs => some (W.bl (allB bs)) | none => none) = _
  rw [anyB_map]
  simp only
  rw [allB_is, List.all_map]
  rfl
theorem zipW_map {α β : Type} (f : α -> W) (g : β -> W) : ∀ (xs : List α) (ys : List β), zipW (xs.map f) (ys.map g) = (xs.zip ys).map fun p => W.tup [f p.1, g p.2]
  | [], _ => by simp [zipW]
  | _ :: _, [] => by simp [zipW]
  | x :: xs, y :: ys => by simp [zipW, zipW_map f g xs ys]
section
variable {α : Type} [DecidableEq α] {d : Nat} {e : α -> W}
theorem cmp_eq (E : Enc d e) (hd : d <= 30) (a b : α) (h : MH) : wCmpB false (e a) (e b) h = some (.bl (decide (a = b))) := by
  rw [cmp_enc E hd]; simp
theorem cmp_ne (E : Enc d e) (hd : d <= 30) (a b : α) (h : MH) : wCmpB true (e a) (e b) h = some (.bl (!decide (a = b))) := by
  rw [cmp_enc E hd]; simp
theorem mem_tup (E : Enc d e) (hd : d <= 30) (a : α) (l : List α) (h : MH) [D : Decidable (a ∈ l)] : wIn false (e a) (.tup (l.map e)) h = some (.bl (decide (a ∈ l))) := by
  rw [in_tup E hd, Bool.false_xor]
  exact congrArg (fun b => some (W.bl b)) (decide_eq_decide.mpr Iff.rfl)
theorem nmem_tup (E : Enc d e) (hd : d <= 30) (a : α) (l : List α) (h : MH) [D : Decidable (a ∈ l)] : wIn true (e a) (.tup (l.map e)) h = some (.bl (!decide (a ∈ l))) := by
  rw [in_tup E hd, Bool.true_xor]
  exact congrArg (fun b => some (W.bl (!b))) (decide_eq_decide.mpr Iff.rfl)
theorem noRef_lst (E : Enc d e) (l : List α) : noRef (.lst (l.map e)) = true := by rw [noRef]; exact noRefs_map E l
theorem noRef_tup (E : Enc d e) (l : List α) : noRef (.tup (l.map e)) = true := by rw [noRef]; exact noRefs_map E l
end
structure KEnc {α : Type} [DecidableEq α] (e : α -> W) : Prop where
  eq : ∀ a b, kEq (e a) (e b) = decide (a = b)
  fit : (∀ a, scal (e a) = true) \/ ((∀ a, scal (e a) = false) /\ ∀ a, (kT (e a)).isSome = true)
section
variable {α : Type} [DecidableEq α] {e : α -> W}
theorem keyFit_map (E : KEnc e) (a : α) (l : List α) : keyFit (e a) (l.map e) = true := by
  unfold keyFit
  rcases E.fit with f | ⟨f, g⟩
  · rw [f]
    cases l with
    | nil => rfl
    | cons x l => exact f x
  · rw [f]
    obtain ⟨k, ek⟩ := Option.isSome_iff_exists.mp (g a)
    simp only [ek]
    cases l with
    | nil => rfl
    | cons x l => simp only [List.map_cons]; rw [f x]; rfl
def look {β : Type} (k : α) : List (α × β) -> Option β
  | [] => none
  | (a, b) :: r => if a = k then some b else look k r
theorem dfind_map {β : Type} (E : KEnc e) (f : β -> W) (k : α) : ∀ l : List (α × β), dfind (e k) ((l.map (·.1)).map e) ((l.map (·.2)).map f) = (look k l).map f
  | [] => rfl
  | (a, b) :: r => by
    simp only [List.map_cons, dfind, E.eq, look]
    by_cases h : a = k
    · simp [h]
    · simp only [h, decide_false, if_false]
      exact dfind_map E f k r
theorem dhas_map (E : KEnc e) (k : α) : ∀ l : List α, dhas (e k) (l.map e) = decide (k ∈ l)
  | [] => by simp [dhas]
  | a :: r => by
    simp only [List.map_cons, dhas, E.eq]
    by_cases h : a = k
    · simp [h]
    · simp only [h, decide_false]
      rw [dhas_map E k r]
      simp [Ne.symm h]
end
theorem kenc_str : KEnc (fun s : Str => W.str s) := ⟨fun a b => by show strEq a b = _; rw [strEq_eq], .inl fun _ => rfl⟩
theorem kenc_item : KEnc (fun q : Str × Int => W.tup [.str q.1, .int q.2]) := ⟨fun a b => by
  show (match strEq a.1 b.1 with | true => (match decide (a.2 = b.2) with | true => true | false => false) | false => false) = _
  rw [strEq_eq]
  obtain ⟨a1, a2⟩ := a
  obtain ⟨b1, b2⟩ := b
  by_cases h1 : a1 = b1 <;> by_cases h2 : a2 = b2 <;> simp [h1, h2], .inr ⟨fun _ => rfl, fun _ => rfl⟩⟩
section
variable {α : Type} [DecidableEq α] {e : α -> W}
theorem in_dct (E : KEnc e) (neg : Bool) (k : α) (l : List α) (vs : List W) (h : MH) : wIn neg (e k) (.dct (l.map e) vs) h = some (.bl (xor neg (decide (k ∈ l)))) := by
  show (match keyFit (e k) (l.map e) with | true => some (W.bl (xor neg (dhas (e k) (l.map e)))) | false => none) = _
  rw [keyFit_map E, dhas_map E]
theorem mem_dct (E : KEnc e) (k : α) (l : List α) (vs : List W) (h : MH) [D : Decidable (k ∈ l)] : wIn false (e k) (.dct (l.map e) vs) h = some (.bl (decide (k ∈ l))) := by
  rw [in_dct E, Bool.false_xor]
  exact congrArg (fun b => some (W.bl b)) (decide_eq_decide.mpr Iff.rfl)
theorem nmem_dct (E : KEnc e) (k : α) (l : List α) (vs : List W) (h : MH) [D : Decidable (k ∈ l)] : wIn true (e k) (.dct (l.map e) vs) h = some (.bl (!decide (k ∈ l))) := by
  rw [in_dct E, Bool.true_xor]
  exact congrArg (fun b => some (W.bl (!b))) (decide_eq_decide.mpr Iff.rfl)
theorem ix_dct {β : Type} (E : KEnc e) {f : β -> W} {k : α} {l : List (α × β)} {b : β} (h : MH) (hk : look k l = some b) : wIx (.dct ((l.map Prod.fst).map e) ((l.map Prod.snd).map f)) (e k) h = some (f b) := by
  show (match keyFit (e k) ((l.map Prod.fst).map e) with | true => dfind (e k) ((l.map Prod.fst).map e) ((l.map Prod.snd).map f) | false => none) = _
  rw [keyFit_map E, dfind_map E, hk]
  rfl
theorem get_dct {β : Type} (E : KEnc e) {f : β -> W} (k : α) (l : List (α × β)) (b : β) (h : MH) : fGet (.dct ((l.map Prod.fst).map e) ((l.map Prod.snd).map f)) [e k, f b] h = .ok (f ((look k l).getD b)) h := by
  show (match keyFit (e k) ((l.map Prod.fst).map e) with | true => (match dfind (e k) ((l.map Prod.fst).map e) ((l.map Prod.snd).map f) with | some z => R.ok z h | none => R.ok (f b) h) | false => R.stuck) = _
  rw [keyFit_map E, dfind_map E]
  cases look k l <;> rfl
end
theorem look_mem {α β : Type} [DecidableEq α] {k : α} {b : β} : ∀ {l : List (α × β)}, look k l = some b -> (k, b) ∈ l
  | (a, c) :: r, h => by
    unfold look at h
    by_cases q : a = k
    · rw [if_pos q] at h; cases h; subst q; exact List.mem_cons_self
    · rw [if_neg q] at h; exact List.mem_cons_of_mem _ (look_mem h)
theorem look_some {α β : Type} [DecidableEq α] {k : α} : ∀ {l : List (α × β)}, k ∈ l.map (·.1) -> ∃ b, look k l = some b
  | (a, c) :: r, h => by
    unfold look
    by_cases q : a = k
    · exact ⟨c, by rw [if_pos q]⟩
    · rw [if_neg q]
      refine look_some ?_
      rw [List.map_cons, List.mem_cons] at h
      exact h.resolve_left fun z => q z.symm
theorem look_of_mem {α β : Type} [DecidableEq α] {k : α} {b : β} : ∀ {l : List (α × β)}, (l.map (·.1)).Nodup -> (k, b) ∈ l -> look k l = some b
  | (a, c) :: r, nd, h => by
    rw [List.map_cons, List.nodup_cons] at nd
    unfold look
    rcases List.mem_cons.mp h with e | e
    · cases e; rw [if_pos rfl]
    · have : a ≠ k := fun z => nd.1 (by subst z; exact List.mem_map_of_mem (f := (·.1)) e)
      rw [if_neg this]
      exact look_of_mem nd.2 e
theorem atI_nat {α : Type} (ws : List α) (i : Nat) : atI ws (i : Int) = ws[i]? := by
  unfold atI ixN
  rw [if_pos (by omega)]
  by_cases h : i < ws.length
  · rw [if_pos (by omega)]; simp
  · rw [if_neg (by omega)]
    rw [List.getElem?_eq_none (by omega)]
    rfl
theorem ix_tup {α : Type} {e : α -> W} {l : List α} {i : Nat} {a : α} (h : MH) (hi : l[i]? = some a) : wIx (.tup (l.map e)) (.int (i : Int)) h = some (e a) := by
  show atI (l.map e) (i : Int) = _
  rw [atI_nat, List.getElem?_map, hi]
  rfl
theorem ix_lst {α : Type} {e : α -> W} {l : List α} {i : Nat} {a : α} (h : MH) (hi : l[i]? = some a) : wIx (.lst (l.map e)) (.int (i : Int)) h = some (e a) := by
  show atI (l.map e) (i : Int) = _
  rw [atI_nat, List.getElem?_map, hi]
  rfl
theorem rangeW_map (lo : Int) : ∀ n : Nat, rangeW lo n = (List.range n).map fun k : Nat => W.int (lo + (k : Int))
  | 0 => rfl
  | n + 1 => by
    rw [rangeW, rangeW_map (lo + 1) n, List.range_succ_eq_map, List.map_cons, List.map_map]
    congr 1
    · simp
    · apply List.map_congr_left
      intro k _
      simp only [Function.comp]
      congr 1
      omega
theorem fit62_of {i : Int} (h1 : -1000000 <= i) (h2 : i <= 1000000) : fit62 i = true := by
  unfold fit62
  rw [decide_eq_true (by omega), decide_eq_true (by omega)]
  rfl
theorem rangeW_zero (n : Nat) : rangeW 0 n = (List.range n).map fun k : Nat => W.int (k : Int) :=
  (rangeW_map 0 n).trans (List.map_congr_left fun k _ => by rw [Int.zero_add])
theorem rng1_go {as : AM} {me : Me} {h h1 : MH} {n : Nat} (e : as me h = .ok [.int (n : Int)] h1) (hn : fit62 (n : Int) = true) : mRng1 as me h = .ok ((List.range n).map fun k : Nat => W.int (k : Int)) h1 := by
  unfold mRng1
  rw [e, bind_ok, <- rangeW_zero]
  show rIf (fit62 (n : Int)) (rangeW 0 (n : Int).toNat) h1 = _
  rw [hn, Int.toNat_natCast]
  rfl
theorem rng2_go {as : AM} {me : Me} {h h1 : MH} {i j : Int} (e : as me h = .ok [.int i, .int j] h1) (h2 : fit62 i = true) (h3 : fit62 j = true) : mRng2 as me h = .ok ((List.range (j - i).toNat).map fun k : Nat => W.int (i + (k : Int))) h1 := by
  unfold mRng2
  rw [e, bind_ok, <- rangeW_map]
  show rIf (fit62 i && fit62 j) (rangeW i (j - i).toNat) h1 = _
  rw [h2, h3]
  rfl
theorem cut_take {α : Type} (e : α -> W) (l : List α) (i : Nat) : cutW (l.map e) none (some (i : Int)) = (l.take i).map e := by
  unfold cutW
  rw [HT.sIx_none, HT.sIx_nat, List.length_map, List.drop_zero, Nat.sub_zero, List.map_take]
  by_cases h : i <= l.length
  · rw [Nat.min_eq_left h]
  · rw [Nat.min_eq_right (by omega), List.take_of_length_le (by simp), List.take_of_length_le (by simp; omega)]
theorem cut_drop {α : Type} (e : α -> W) (l : List α) (i : Nat) : cutW (l.map e) (some (i : Int)) none = (l.drop i).map e := by
  unfold cutW
  rw [HT.sIx_none, HT.sIx_nat, List.length_map, List.map_drop]
  by_cases h : i <= l.length
  · rw [Nat.min_eq_left h, List.take_of_length_le (by simp)]
  · rw [Nat.min_eq_right (by omega), List.drop_eq_nil_of_le (by simp), List.drop_eq_nil_of_le (by simp; omega)]
    simp
def posOf {α : Type} [DecidableEq α] (a : α) : List α -> Option Nat
  | [] => none
  | b :: r => if b = a then some 0 else (posOf a r).map (· + 1)
theorem idxW_map {α : Type} [DecidableEq α] {d : Nat} {e : α -> W} (E : Enc d e) (hd : d <= 30) (a : α) : ∀ (l : List α) (i : Nat), idxW (weq 30) (e a) (l.map e) i = (posOf a l).map (i + ·)
  | [], i => rfl
  | b :: r, i => by
    rw [List.map_cons, idxW, E.eq 30 b a hd]
    unfold posOf
    by_cases h : b = a
    · simp [h]
    · simp only [h, decide_false, if_false]
      rw [idxW_map E hd a r (i + 1)]
      cases posOf a r with
      | none => rfl
      | some k => simp; omega
theorem index_go {α : Type} [DecidableEq α] {d : Nat} {e : α -> W} (E : Enc d e) (hd : d <= 30) {a : α} {l : List α} {i : Nat} (h : MH) (hl : l.length <= 1000) (hp : posOf a l = some i) : fIndex (.lst (l.map e)) [e a] h = .ok (.int (i : Int)) h := by
  show (match winL (weq 30) (e a) (l.map e) with | some _ => (match lenLe (l.map e).length with | true => (match idxW (weq 30) (e a) (l.map e) 0 with | some i => R.ok (W.int i) h | none => .stuck) | false => .stuck) | none => .stuck) = _
  rw [winL_map E hd, idxW_map E hd, hp]
  have : lenLe (l.map e).length = true := by
    rw [List.length_map]; exact Nat.ble_eq_true_of_le (by omega)
  simp only [this, Option.map_some, Nat.zero_add]
theorem posOf_some {α : Type} [DecidableEq α] {a : α} : ∀ {l : List α}, a ∈ l -> ∃ i, posOf a l = some i /\ i < l.length /\ l[i]? = some a
  | b :: r, h => by
    unfold posOf
    by_cases q : b = a
    · exact ⟨0, by rw [if_pos q], by simp, by simp [q]⟩
    · obtain ⟨i, e, lt, g⟩ := posOf_some (l := r) ((List.mem_cons.mp h).resolve_left fun z => q z.symm)
      exact ⟨i + 1, by rw [if_neg q, e]; rfl, by simp; omega, by simpa using g⟩
theorem meth_go {isT : W -> MH -> Bool} {F : FMe} {mo : EM} {as : AM} {me : Me} {h h1 h2 h3 : MH} {w z : W} {xs : List W} (e : mo me h = .ok w h1) (t : isT w h1 = true) (e2 : as me h1 = .ok xs h2) (e3 : F w xs h2 = .ok z h3) : mMeth isT F mo as me h = .ok z h3 := by
  unfold mMeth
  rw [e]
  simp only [bind_ok, t]
  rw [e2]
  simp only [bind_ok, e3]
theorem fi_go {src : AM} {g : GM} {b : SM} {me : Me} {h h1 : MH} {ws : List W} {r : RS} (e : src me h = .ok ws h1) (e2 : sFor g b ws me h1 = r) : sForI src g b me h = r := by
  unfold sForI
  rw [e]
  exact e2
theorem sl_go {m : EM} {lo hi : OM} {me : Me} {h h1 h2 h3 : MH} {w z : W} {l u : Option Int} (e : m me h = .ok w h1) (e1 : lo me h1 = .ok l h2) (e2 : hi me h2 = .ok u h3) (e3 : wSl w l u h3 = some z) : mSl m lo hi me h = .ok z h3 := by
  unfold mSl
  rw [e]; simp only [bind_ok]
  rw [e1]; simp only [bind_ok]
  rw [e2]; simp only [bind_ok]
  rw [e3]; rfl
theorem os_go {m : EM} {me : Me} {h h1 : MH} {i : Int} (e : m me h = .ok (.int i) h1) : oSome m me h = .ok (some i) h1 := by
  unfold oSome
  rw [e]; rfl
theorem lenLe_of {n : Nat} (h : n <= 100000) : lenLe n = true := Nat.ble_eq_true_of_le (by omega)
theorem ifx_go {t a b : EM} {me : Me} {k : Bool} {h h1 : MH} {r : R W} (e : t me h = .ok (.bl k) h1) (e2 : (if k then a me h1 else b me h1) = r) : mIf t a b me h = r := by
  unfold mIf
  rw [e]
  cases k <;> exact e2
theorem keepLt_t {k m : Nat} {o : O} {r : List (Nat × O)} (e : Nat.ble k m = true) : keepLt k ((m, o) :: r) = keepLt k r := by
  show (match Nat.ble k m with
    | true => keepLt k r
    | false => (m, o) :: keepLt k r) = _
  rw [e]
theorem keepLt_f {k m : Nat} {o : O} {r : List (Nat × O)} (e : Nat.ble k m = false) : keepLt k ((m, o) :: r) = (m, o) :: keepLt k r := by
  show (match Nat.ble k m with
    | true => keepLt k r
    | false => (m, o) :: keepLt k r) = _
  rw [e]
theorem setN_t {n m : Nat} {o u : O} {r : List (Nat × O)} (e : Nat.beq n m = true) : setN n o ((m, u) :: r) = (m, o) :: r := by
  show (match Nat.beq n m with
    | true => (m, o) :: r
    | false => (m, u) :: setN n o r) = _
  rw [e]
theorem setN_f {n m : Nat} {o u : O} {r : List (Nat × O)} (e : Nat.beq n m = false) : setN n o ((m, u) :: r) = (m, u) :: setN n o r := by
  show (match Nat.beq n m with
    | true => (m, o) :: r
    | false => (m, u) :: setN n o r) = _
  rw [e]
theorem delN_t {n m : Nat} {u : O} {r : List (Nat × O)} (e : Nat.beq n m = true) : delN n ((m, u) :: r) = delN n r := by
  show (match Nat.beq n m with
    | true => delN n r
    | false => (m, u) :: delN n r) = _
  rw [e]
theorem delN_f {n m : Nat} {u : O} {r : List (Nat × O)} (e : Nat.beq n m = false) : delN n ((m, u) :: r) = (m, u) :: delN n r := by
  show (match Nat.beq n m with
    | true => delN n r
    | false => (m, u) :: delN n r) = _
  rw [e]
theorem keepLt_len (k : Nat) : ∀ r : List (Nat × O), (keepLt k r).length <= r.length
  | [] => Nat.le_refl _
  | (a, b) :: r => by
    cases e : Nat.ble k a with
    | true => rw [keepLt_t e]; exact Nat.le_succ_of_le (keepLt_len k r)
    | false => rw [keepLt_f e]; exact Nat.succ_le_succ (keepLt_len k r)
theorem keepLt_inv {k m : Nat} {u : O} {r : List (Nat × O)} (h : keepLt k ((m, u) :: r) = (m, u) :: r) : keepLt k r = r /\ Nat.ble k m = false := by
  cases e : Nat.ble k m with
  | true =>
    rw [keepLt_t e] at h
    have h2 := keepLt_len k r
    rw [h] at h2
    rw [List.length_cons] at h2
    omega
  | false =>
    rw [keepLt_f e] at h
    exact ⟨by injection h, rfl⟩
theorem keepLt_up {k k' : Nat} (hk : k <= k') : ∀ {l : List (Nat × O)}, keepLt k l = l -> keepLt k' l = l
  | [], _ => rfl
  | (m, o) :: r, h => by
    obtain ⟨h1, h2⟩ := keepLt_inv h
    have e1 : ¬ k <= m := fun z => by rw [Nat.ble_eq_true_of_le z] at h2; cases h2
    have e2 : Nat.ble k' m = false := by
      cases q : Nat.ble k' m with
      | false => rfl
      | true => exact absurd (Nat.le_trans hk (Nat.le_of_ble_eq_true q)) e1
    rw [keepLt_f e2, keepLt_up hk h1]
theorem keepLt_cons {k n : Nat} {o : O} {l : List (Nat × O)} (h : k <= n) : keepLt k ((n, o) :: l) = keepLt k l := keepLt_t (Nat.ble_eq_true_of_le h)
theorem keepLt_set {k n : Nat} {o : O} (h : k <= n) : ∀ l : List (Nat × O), keepLt k (setN n o l) = keepLt k l
  | [] => rfl
  | (m, u) :: r => by
    cases e : Nat.beq n m with
    | true =>
      obtain rfl := Nat.eq_of_beq_eq_true e
      rw [setN_t e, keepLt_cons h, keepLt_cons h]
    | false =>
      rw [setN_f e]
      cases e2 : Nat.ble k m with
      | true => rw [keepLt_t e2, keepLt_t e2, keepLt_set h r]
      | false => rw [keepLt_f e2, keepLt_f e2, keepLt_set h r]
theorem keepLt_del {k n : Nat} (h : k <= n) : ∀ l : List (Nat × O), keepLt k (delN n l) = keepLt k l
  | [] => rfl
  | (m, u) :: r => by
    cases e : Nat.beq n m with
    | true =>
      obtain rfl := Nat.eq_of_beq_eq_true e
      rw [delN_t e, keepLt_cons h, keepLt_del h r]
    | false =>
      rw [delN_f e]
      cases e2 : Nat.ble k m with
      | true => rw [keepLt_t e2, keepLt_t e2, keepLt_del h r]
      | false => rw [keepLt_f e2, keepLt_f e2, keepLt_del h r]
theorem keepLt_setAny {k n : Nat} {o : O} : ∀ {l : List (Nat × O)}, keepLt k l = l -> keepLt k (setN n o l) = setN n o l
  | [], _ => rfl
  | (m, u) :: r, h => by
    obtain ⟨h1, h2⟩ := keepLt_inv h
    cases e : Nat.beq n m with
    | true => rw [setN_t e, keepLt_f h2, h1]
    | false => rw [setN_f e, keepLt_f h2, keepLt_setAny h1]
theorem keepLt_delAny {k n : Nat} : ∀ {l : List (Nat × O)}, keepLt k l = l -> keepLt k (delN n l) = delN n l
  | [], _ => rfl
  | (m, u) :: r, h => by
    obtain ⟨h1, h2⟩ := keepLt_inv h
    cases e : Nat.beq n m with
    | true => rw [delN_t e, keepLt_delAny h1]
    | false => rw [delN_f e, keepLt_f h2, keepLt_delAny h1]
theorem nr_set {k n : Nat} {o : O} (ho : refLtO k o = true) : ∀ {l : List (Nat × O)}, refLtL k l = true -> refLtL k (setN n o l) = true
  | [], _ => rfl
  | (m, u) :: r, h => by
    unfold refLtL at h
    obtain ⟨h1, h2⟩ := Bool.and_eq_true_iff.mp h
    cases e : Nat.beq n m with
    | true => rw [setN_t e, refLtL, ho, h2]; rfl
    | false => rw [setN_f e, refLtL, h1, nr_set ho h2]; rfl
theorem nr_del {k n : Nat} : ∀ {l : List (Nat × O)}, refLtL k l = true -> refLtL k (delN n l) = true
  | [], _ => rfl
  | (m, u) :: r, h => by
    unfold refLtL at h
    obtain ⟨h1, h2⟩ := Bool.and_eq_true_iff.mp h
    cases e : Nat.beq n m with
    | true => rw [delN_t e]; exact nr_del h2
    | false => rw [delN_f e, refLtL, h1, nr_del h2]; rfl
theorem MH.Ok.newR {h : MH} (ok : h.Ok) {o : O} (ho : refLtO (h.nx + 1) o = true) : (h.new o).Ok := ⟨by
  show keepLt (h.nx + 1) ((h.nx, o) :: h.l) = (h.nx, o) :: h.l
  have : Nat.ble (h.nx + 1) h.nx = false := by
    cases q : Nat.ble (h.nx + 1) h.nx with
    | false => rfl
    | true => exact absurd (Nat.le_of_ble_eq_true q) (by omega)
  rw [keepLt_f this, keepLt_up (Nat.le_succ _) ok.lt], by
  show (refLtO (h.nx + 1) o && refLtL (h.nx + 1) h.l) = true
  rw [ho, refLtL_up (Nat.le_succ _) ok.nr]; rfl⟩
theorem MH.Ok.new {h : MH} (ok : h.Ok) {o : O} (ho : noRefO o = true) : (h.new o).Ok := ok.newR (refLtO_of _ ho)
theorem MH.Ok.setR {h : MH} (ok : h.Ok) {n : Nat} {o : O} (ho : refLtO h.nx o = true) : (h.set n o).Ok := ⟨keepLt_setAny ok.lt, nr_set ho ok.nr⟩
theorem MH.Ok.set {h : MH} (ok : h.Ok) {n : Nat} {o : O} (ho : noRefO o = true) : (h.set n o).Ok := ok.setR (refLtO_of _ ho)
theorem MH.Ok.del {h : MH} (ok : h.Ok) {n : Nat} : (h.del n).Ok := ⟨keepLt_delAny ok.lt, nr_del ok.nr⟩
theorem MH.Over.new {h h' : MH} (ov : h.Over h') (le : h.nx <= h'.nx) {o : O} : h.Over (h'.new o) := by
  show keepLt h.nx ((h'.nx, o) :: h'.l) = h.l
  rw [keepLt_cons le]
  exact ov
theorem MH.Over.set {h h' : MH} (ov : h.Over h') {n : Nat} (le : h.nx <= n) {o : O} : h.Over (h'.set n o) := by
  show keepLt h.nx (setN n o h'.l) = h.l
  rw [keepLt_set le]
  exact ov
theorem MH.Over.del {h h' : MH} (ov : h.Over h') {n : Nat} (le : h.nx <= n) : h.Over (h'.del n) := by
  show keepLt h.nx (delN n h'.l) = h.l
  rw [keepLt_del le]
  exact ov
structure On (h h' : MH) : Prop where
  ov : h.Over h'
  ok : h'.Ok
  le : h.nx <= h'.nx
theorem On.rfl' {h : MH} (ok : h.Ok) : On h h := ⟨ok.over, ok, Nat.le_refl _⟩
theorem On.new {h h' : MH} (a : On h h') {o : O} (ho : noRefO o = true) : On h (h'.new o) := ⟨a.ov.new a.le, a.ok.new ho, Nat.le_succ_of_le a.le⟩
theorem On.set {h h' : MH} (a : On h h') {n : Nat} (le : h.nx <= n) {o : O} (ho : noRefO o = true) : On h (h'.set n o) := ⟨a.ov.set le, a.ok.set ho, a.le⟩
theorem On.del {h h' : MH} (a : On h h') {n : Nat} (le : h.nx <= n) : On h (h'.del n) := ⟨a.ov.del le, a.ok.del, a.le⟩
theorem while_stop {t : EM} {b : SM} {n : Nat} {me : Me} {h h1 : MH} (e : t me h = .ok (.bl false) h1) : sWhile t b (n + 1) me h = .nx me h1 := by
  unfold sWhile; rw [e]; rfl
theorem while_turn {t : EM} {b : SM} {n : Nat} {me me2 : Me} {h h1 h2 : MH} (e : t me h = .ok (.bl true) h1) (e2 : b me h1 = .nx me2 h2) : sWhile t b (n + 1) me h = sWhile t b n me2 h2 := by
  rw [sWhile]
  dsimp only
  rw [e]; simp only [ofE_ok]; rw [e2]
section
variable {β : Type} (kids : β -> Option (List β))
end
end Mi
end
section
namespace Mi
open PySem PySem.Spec PySem.W PyProof.Rows L2
theorem ltN_anti : ∀ a b : List Nat, ltN a b = false -> ltN b a = false -> a = b
  | [], [], _, _ => rfl
  | [], _ :: _, h, _ => by cases h
  | _ :: _, [], _, h => by cases h
  | x :: r, y :: t, h, k => by
    rw [ltN_is, decide_eq_false_iff_not] at h k
    rcases Nat.lt_trichotomy x y with l | l | l
    · exact absurd (List.cons_lt_cons_iff.mpr (.inl l)) h
    · subst l
      have h2 : ltN r t = false := by rw [ltN_is, decide_eq_false_iff_not]; exact fun z => h (List.cons_lt_cons_iff.mpr (.inr ⟨rfl, z⟩))
      have k2 : ltN t r = false := by rw [ltN_is, decide_eq_false_iff_not]; exact fun z => k (List.cons_lt_cons_iff.mpr (.inr ⟨rfl, z⟩))
      rw [ltN_anti r t h2 k2]
    · exact absurd (List.cons_lt_cons_iff.mpr (.inl l)) k
theorem tokLt1_anti {a b : Int ⊕ List Nat} (h : tokLt1 a b = false) (k : tokLt1 b a = false) : a = b := by
  cases a with
  | inl i => cases b with
    | inl j =>
      have h : decide (i < j) = false := h
      have k : decide (j < i) = false := k
      rw [decide_eq_false_iff_not] at h k
      congr 1
      omega
    | inr y => cases h
  | inr x => cases b with
    | inl j => cases k
    | inr y => congr 1; exact ltN_anti x y h k
theorem tokLt_anti : ∀ a b : List (Int ⊕ List Nat), tokLt a b = false -> tokLt b a = false -> a = b
  | [], [], _, _ => rfl
  | [], _ :: _, h, _ => by cases h
  | _ :: _, [], _, h => by cases h
  | x :: r, y :: t, h, k => by
    unfold tokLt at h k
    cases e1 : tokLt1 x y with
    | true => simp only [e1] at h; cases h
    | false =>
      cases e2 : tokLt1 y x with
      | true => simp only [e2] at k; cases k
      | false =>
        simp only [e1, e2] at h k
        rw [tokLt1_anti e1 e2, tokLt_anti r t h k]
def leW (a b : W) : Bool := dataLe false toD a b
theorem leW_is (a b : W) : leW a b = !tokLt (keyToks (toD b)) (keyToks (toD a)) := by
  unfold leW
  rw [tokLt_is]
  rfl
theorem leW_trans (x y z : W) (h1 : leW x y = true) (h2 : leW y z = true) : leW x z = true := (sortLe_total (listOrd itemOrd) false (fun b : W => keyToks (toD b))).trans x y z h1 h2
theorem leW_total (x y : W) : (leW x y || leW y x) = true := by
  rcases (sortLe_total (listOrd itemOrd) false (fun b : W => keyToks (toD b))).total x y with h | h
  · have h : leW x y = true := h
    rw [h]; rfl
  · have h : leW y x = true := h
    rw [h]; simp
theorem leW_anti {a b : W} (h : leW a b = true) (k : leW b a = true) : keyToks (toD a) = keyToks (toD b) := by
  rw [leW_is, Bool.not_eq_true'] at h k
  exact tokLt_anti _ _ k h
theorem pair_unique {α : Type} {le : α -> α -> Bool} (anti : ∀ a b, le a b = true -> le b a = true -> a = b) : ∀ {l r : List α}, l.Pairwise (fun a b => le a b = true) -> r.Pairwise (fun a b => le a b = true) -> l.Perm r -> l = r
  | [], r, _, _, p => by rw [p.symm.eq_nil]
  | a :: l, [], _, _, p => by cases p.eq_nil
  | a :: l, b :: r, hl, hr, p => by
    rw [List.pairwise_cons] at hl hr
    have ab : a = b := by
      rcases List.mem_cons.mp (p.subset List.mem_cons_self) with e | e
      · exact e
      · rcases List.mem_cons.mp (p.symm.subset List.mem_cons_self) with e2 | e2
        · exact e2.symm
        · exact anti a b (hl.1 b e2) (hr.1 a e)
    subst ab
    rw [pair_unique anti hl.2 hr.2 ((List.perm_cons a).mp p)]
section
variable {α : Type} (e : α -> W)
def leE (a b : α) : Bool := leW (e a) (e b)
def sortE (l : List α) : List α := l.mergeSort (leE e)
theorem sortE_map (l : List α) : sortW (l.map e) = (sortE e l).map e := by
  rw [sortW_is]
  unfold sortE
  exact (List.map_mergeSort (r := leE e) (s := dataLe false toD) (f := e) (l := l) (fun a _ b _ => rfl)).symm
theorem sortE_perm (l : List α) : (sortE e l).Perm l := List.mergeSort_perm l _
theorem sortE_pair (l : List α) : (sortE e l).Pairwise (fun a b => leE e a b = true) := List.pairwise_mergeSort (fun a b c => leW_trans (e a) (e b) (e c)) (fun a b => leW_total (e a) (e b)) l
theorem sortE_eq (inj : ∀ a b, keyToks (toD (e a)) = keyToks (toD (e b)) -> a = b) {l r : List α} (p : l.Perm r) : sortE e l = sortE e r :=
  pair_unique (fun a b h k => inj a b (leW_anti h k)) (sortE_pair e l) (sortE_pair e r) (((sortE_perm e l).trans p).trans (sortE_perm e r).symm)
theorem sorted_go {l : List α} (h : MH) (pl : ∀ a ∈ l, plainN 20 (e a) = true) (sh : ∀ a ∈ l, ∀ b ∈ l, sameSh (toD (e a)) (toD (e b)) = true) (ne : ∀ a ∈ l, tupNe (toD (e a)) = true) (hl : l.length <= 100000) : wSorted [.lst (l.map e)] h = some (.lst ((sortE e l).map e)) := by
  have k1 : allN (plainN 20) (l.map e) = true := by
    clear sh ne hl
    induction l with
    | nil => rfl
    | cons a r ih =>
      rw [List.map_cons, allN, pl a List.mem_cons_self]
      exact ih fun b hb => pl b (List.mem_cons_of_mem _ hb)
  have allD_of : ∀ {f : PyData -> Bool} {r : List α}, (∀ a ∈ r, f (toD (e a)) = true) -> allD f (toDs (r.map e)) = true := fun {f r} hf => by
    induction r with
    | nil => rfl
    | cons a r ih =>
      rw [List.map_cons, toDs, allD, hf a List.mem_cons_self]
      exact ih fun b hb => hf b (List.mem_cons_of_mem _ hb)
  have k2 : ordOk (toDs (l.map e)) = true := by
    cases l with
    | nil => rfl
    | cons a r =>
      have a1 := allD_of (f := sameSh (toD (e a))) (r := a :: r) fun b hb => sh a List.mem_cons_self b hb
      have a2 := allD_of (f := tupNe) (r := a :: r) ne
      rw [List.map_cons, toDs] at a1 a2 ⊢
      unfold ordOk
      simp only [a1, a2]
  show (match allN (plainN 20) (l.map e) with
    | true => (match ordOk (toDs (l.map e)) with
      | true => (match lenLe (l.map e).length with
        | true => some (W.lst (sortW (l.map e)))
        | false => none)
      | false => none)
    | false => none) = _
  rw [k1, k2, List.length_map, lenLe_of hl, sortE_map]
end
theorem frz_go {i n : Nat} {me : Me} {h : MH} {ws : List W} (e : nth me i = some (.ref n)) (e2 : h.get n = some (.lst ws)) : sFrz i me h = .nx (put me i (.lst ws)) (h.del n) := by
  unfold sFrz
  simp only [e, e2]
  rfl
theorem box_go {as : AM} {me : Me} {ws : List W} {h h1 : MH} (e : as me h = .ok ws h1) (l : lenLe ws.length = true) : mBox as me h = .ok (.ref h1.nx) (h1.new (.lst ws)) := by
  unfold mBox; rw [e]; simp only [bind_ok, l]
theorem par2_go {i j : Nat} {as : AM} {me : Me} {a b : W} {h h1 : MH} (e : as me h = .ok [a, b] h1) : sPar2 i j as me h = .nx (put (put me i a) j b) h1 := by
  unfold sPar2; rw [e]; rfl
theorem guard_go {t : EM} {a b : SM} {me : Me} {h : MH} {r : RS} (e : t me h = .ok (.bl false) h) (k : b me h = r) : sSeq (sIf t a sNil) b me h = r := seq_go (if_f e rfl) k
end Mi
end
section
namespace Mi
open PySem PySem.Spec PyProof.Rows L2
def dput {κ β : Type} [DecidableEq κ] (k : κ) (v : β) : List (κ × β) -> List (κ × β)
  | [] => [(k, v)]
  | (a, b) :: r => if a = k then (a, v) :: r else (a, b) :: dput k v r
abbrev dctW {κ β : Type} (e : κ -> W) (f : β -> W) (l : List (κ × β)) : W := .dct ((l.map Prod.fst).map e) ((l.map Prod.snd).map f)
section
variable {κ β : Type} [DecidableEq κ] {e : κ -> W} {f : β -> W}
theorem dputK_map (E : KEnc e) (k : κ) (v : β) : ∀ l : List (κ × β), dputK (e k) ((l.map Prod.fst).map e) = ((dput k v l).map Prod.fst).map e
  | [] => rfl
  | (a, b) :: r => by
    simp only [List.map_cons, dputK, E.eq, dput]
    by_cases h : a = k
    · simp [h]
    · simp only [h, decide_false, if_false, List.map_cons]
      rw [dputK_map E k v r]
theorem dputV_map (E : KEnc e) (k : κ) (v : β) : ∀ l : List (κ × β), dputV (e k) (f v) ((l.map Prod.fst).map e) ((l.map Prod.snd).map f) = ((dput k v l).map Prod.snd).map f
  | [] => rfl
  | (a, b) :: r => by
    simp only [List.map_cons, dputV, E.eq, dput]
    by_cases h : a = k
    · simp [h]
    · simp only [h, decide_false, if_false, List.map_cons]
      rw [dputV_map E k v r]
theorem dput_len (k : κ) (v : β) : ∀ l : List (κ × β), (dput k v l).length <= l.length + 1
  | [] => by simp [dput]
  | (a, b) :: r => by
    unfold dput
    split
    · simp
    · have := dput_len k v r
      simp only [List.length_cons]
      omega
theorem dput_new {k : κ} {v : β} : ∀ {l : List (κ × β)}, k ∉ l.map Prod.fst -> dput k v l = l ++ [(k, v)]
  | [], _ => rfl
  | (a, b) :: r, h => by
    rw [List.map_cons, List.mem_cons, not_or] at h
    unfold dput
    rw [if_neg (Ne.symm h.1), dput_new h.2]
    rfl
theorem dput_keys {k a : κ} {v : β} : ∀ {l : List (κ × β)}, a ∈ (dput k v l).map Prod.fst ↔ a = k \/ a ∈ l.map Prod.fst
  | [] => by simp [dput]
  | (x, b) :: r => by
    unfold dput
    split
    · rename_i h
      subst h
      simp
    · rw [List.map_cons, List.mem_cons, dput_keys (l := r), List.map_cons, List.mem_cons]
      constructor
      · rintro (h | h | h)
        · exact .inr (.inl h)
        · exact .inl h
        · exact .inr (.inr h)
      · rintro (h | h | h)
        · exact .inr (.inl h)
        · exact .inl h
        · exact .inr (.inr h)
theorem dput_nodup {k : κ} {v : β} : ∀ {l : List (κ × β)}, (l.map Prod.fst).Nodup -> ((dput k v l).map Prod.fst).Nodup
  | [], _ => by simp [dput]
  | (x, b) :: r, h => by
    rw [List.map_cons, List.nodup_cons] at h
    unfold dput
    split
    · rw [List.map_cons, List.nodup_cons]; exact h
    · rename_i ne
      rw [List.map_cons, List.nodup_cons, dput_keys]
      exact ⟨fun z => z.elim ne h.1, dput_nodup h.2⟩
theorem fitPut_map (E : KEnc e) (k : κ) (l : List κ) (hl : l.length <= 100000) : fitPut (e k) (l.map e) = true := by
  unfold fitPut
  rw [keyFit_map E]
  simp only
  rw [List.length_map]
  exact Nat.ble_eq_true_of_le (by omega)
theorem dc_map (E : KEnc e) {α : Type} {enc : α -> W} {p : α -> Bool} {kf : α -> κ} {vf : α -> β} {g : GM} {t ek ev : EM} {me0 : Me} {h : MH} : ∀ {xs : List α} {acc : List (κ × β)}, acc.length + xs.length <= 100000 ->
    (∀ x ∈ xs, ∃ me, g (enc x) me0 = some me /\ t me h = .ok (.bl (p x)) h /\ (p x = true -> ek me h = .ok (e (kf x)) h /\ ev me h = .ok (f (vf x)) h)) ->
    dcM g t ek ev me0 (xs.map enc) ((acc.map Prod.fst).map e) ((acc.map Prod.snd).map f) h = .ok ((((xs.filter p).foldl (fun a x => dput (kf x) (vf x) a) acc).map Prod.fst).map e, (((xs.filter p).foldl (fun a x => dput (kf x) (vf x) a) acc).map Prod.snd).map f) h
  | [], acc, _, _ => by simp [dcM]
  | x :: xs, acc, hl, hb => by
    obtain ⟨me, e1, e2, e3⟩ := hb x List.mem_cons_self
    rw [List.length_cons] at hl
    rw [List.map_cons, dcM]
    simp only [e1, e2, nox_ok, bind_ok]
    cases hp : p x with
    | true =>
      obtain ⟨e4, e5⟩ := e3 hp
      simp only [e4, e5, nox_ok, bind_ok]
      rw [fitPut_map E _ _ (by rw [List.length_map]; omega)]
      simp only
      rw [dputK_map E (kf x) (vf x), dputV_map E (kf x) (vf x)]
      rw [dc_map E (acc := dput (kf x) (vf x) acc) (by have := dput_len (kf x) (vf x) acc; omega) fun y hy => hb y (List.mem_cons_of_mem _ hy)]
      rw [List.filter_cons_of_pos hp]
      rfl
    | false =>
      have hp' : ¬ p x = true := by rw [hp]; exact Bool.false_ne_true
      simp only
      rw [dc_map E (by omega) fun y hy => hb y (List.mem_cons_of_mem _ hy), List.filter_cons_of_neg hp']
theorem dc_go (E : KEnc e) {α : Type} {enc : α -> W} {p : α -> Bool} {kf : α -> κ} {vf : α -> β} {src : AM} {g : GM} {t ek ev : EM} {sl : List Nat} {me : Me} {h h1 : MH} {xs : List α} (hs : src me h = .ok (xs.map enc) h1) (hl : xs.length <= 100000)
    (hb : ∀ x ∈ xs, ∃ me1, g (enc x) (wipeW me sl) = some me1 /\ t me1 h1 = .ok (.bl (p x)) h1 /\ (p x = true -> ek me1 h1 = .ok (e (kf x)) h1 /\ ev me1 h1 = .ok (f (vf x)) h1)) : mDc src g t ek ev sl me h = .ok (dctW e f ((xs.filter p).foldl (fun a x => dput (kf x) (vf x) a) [])) h1 := by
  unfold mDc
  rw [hs, bind_ok]
  have := dc_map E (f := f) (acc := []) (by simpa using hl) hb
  simp only [List.map_nil] at this
  rw [this, bind_ok]
theorem fold_new {α : Type} {kf : α -> κ} {vf : α -> β} : ∀ {xs : List α} {acc : List (κ × β)}, (acc.map Prod.fst ++ xs.map kf).Nodup -> xs.foldl (fun a x => dput (kf x) (vf x) a) acc = acc ++ xs.map fun x => (kf x, vf x)
  | [], acc, _ => by simp
  | x :: xs, acc, nd => by
    rw [List.foldl_cons]
    have h1 : kf x ∉ acc.map Prod.fst := fun hm => by
      rw [List.nodup_append] at nd
      exact nd.2.2 _ hm _ (by simp) rfl
    rw [dput_new h1, fold_new]
    · simp
    · rw [List.map_append]
      simpa using nd
theorem fold_keys {α : Type} {kf : α -> κ} {vf : α -> β} {a : κ} : ∀ {xs : List α} {acc : List (κ × β)}, a ∈ (xs.foldl (fun a x => dput (kf x) (vf x) a) acc).map Prod.fst ↔ a ∈ acc.map Prod.fst \/ ∃ x ∈ xs, kf x = a
  | [], acc => by simp
  | x :: xs, acc => by
    rw [List.foldl_cons, fold_keys, dput_keys]
    constructor
    · rintro ((h | h) | ⟨y, hy, e⟩)
      · exact .inr ⟨x, List.mem_cons_self, h.symm⟩
      · exact .inl h
      · exact .inr ⟨y, List.mem_cons_of_mem _ hy, e⟩
    · rintro (h | ⟨y, hy, e⟩)
      · exact .inl (.inr h)
      · rcases List.mem_cons.mp hy with z | z
        · subst z; exact .inl (.inl e.symm)
        · exact .inr ⟨y, z, e⟩
theorem fold_len {α : Type} {kf : α -> κ} {vf : α -> β} : ∀ {xs : List α} {acc : List (κ × β)}, (xs.foldl (fun a x => dput (kf x) (vf x) a) acc).length <= acc.length + xs.length
  | [], acc => by simp
  | x :: xs, acc => by
    rw [List.foldl_cons]
    have := fold_len (kf := kf) (vf := vf) (xs := xs) (acc := dput (kf x) (vf x) acc)
    have := dput_len (kf x) (vf x) acc
    rw [List.length_cons]
    omega
end
theorem items_go {m : EM} {me : Me} {h h1 : MH} {ks vs : List W} (e : m me h = .ok (.dct ks vs) h1) : mItems m me h = .ok (zipW ks vs) h1 := by
  unfold mItems
  rw [e]; rfl
theorem zip_items {κ β : Type} (e : κ -> W) (f : β -> W) (l : List (κ × β)) : zipW ((l.map Prod.fst).map e) ((l.map Prod.snd).map f) = l.map fun q => W.tup [e q.1, f q.2] := by
  rw [zipW_map]
  congr 1
  induction l with
  | nil => rfl
  | cons q r ih => rw [List.map_cons, List.map_cons, List.zip_cons_cons, ih]
theorem st_over {h h1 h2 : MH} (ok1 : h1.Ok) (nx : h1.nx = h.nx) (ov : h1.Over h2) {w : W} (nr : noRef w = true) : rsH h w h2 = h1 := by
  unfold rsH MH.cut
  have e : keepLt h.nx h2.l = h1.l := by rw [<- nx]; exact ov
  rw [e, nr, <- nx, ok1.nr]
  rfl
theorem back_st {h h1 h2 : MH} (nx : h1.nx = h.nx) (ov : h1.Over h2) : h1.Over (h2.back h.nx) := by
  rw [<- nx]
  exact back_over ov
theorem fst_rt {np nl : Nat} {body : SM} {ws : List W} {v : W} {h h1 h2 : MH} (ok1 : h1.Ok) (nx : h1.nx = h.nx) (hl : ws.length = np) (ov : h1.Over h2) (nr : noRef v = true) (hb : body (padM nl ws) h = .rt v h2) : rsF (mDef np nl true body) ws h = .ok v h1 := by
  unfold rsF rsR mDef
  have e : Nat.beq ws.length np = true := by rw [hl]; exact Nat.beq_refl _
  simp only [e, hb]
  rw [st_over ok1 nx (back_st nx ov) nr]
theorem fst_nx {np nl : Nat} {body : SM} {ws : List W} {me : Me} {h h1 h2 : MH} (ok1 : h1.Ok) (nx : h1.nx = h.nx) (hl : ws.length = np) (ov : h1.Over h2) (hb : body (padM nl ws) h = .nx me h2) : rsF (mDef np nl true body) ws h = .ok .non h1 := by
  unfold rsF rsR mDef
  have e : Nat.beq ws.length np = true := by rw [hl]; exact Nat.beq_refl _
  simp only [e, hb]
  rw [st_over ok1 nx (back_st nx ov) rfl]
theorem fld_go {cs : List Nat} {f : Str} {mo mv : EM} {me : Me} {h h1 : MH} {w : W} {n c : Nat} {fn : List Str} {fv : List W} (e : mv me h = .ok w h1) (e2 : mo me h1 = .ok (.ref n) h1) (g : h1.get n = some (.ins c fn fv)) (m : memN c cs = true) (l : Nat.blt fn.length 900 = true) :
    sFldM cs f mo mv me h = .nx me (h1.set n (.ins c (putFn f fn) (putFv f w fn fv))) := by
  unfold sFldM
  rw [e]; simp only [ofE_ok]
  rw [e2]; simp only [ofE_ok, g, m, l]
theorem get_new {h : MH} {o : O} : (h.new o).get h.nx = some o := get_new_same
theorem set_new {h : MH} {o u : O} : (h.new o).set h.nx u = h.new u := by
  unfold MH.new MH.set
  simp only
  rw [setN_t (Nat.beq_refl _)]
theorem del_new {h : MH} (ok : h.Ok) {o : O} : (h.new o).del h.nx = ⟨h.nx + 1, h.l⟩ := by
  unfold MH.new MH.del
  simp only
  rw [delN_t (Nat.beq_refl _)]
  congr 1
  have : ∀ l : List (Nat × O), keepLt h.nx l = l -> delN h.nx l = l := by
    intro l
    induction l with
    | nil => intro _; rfl
    | cons q r ih =>
      obtain ⟨m, u⟩ := q
      intro k
      obtain ⟨k1, k2⟩ := keepLt_inv k
      have : Nat.beq h.nx m = false := by
        cases z : Nat.beq h.nx m with
        | false => rfl
        | true => rw [<- Nat.eq_of_beq_eq_true z, Nat.ble_eq_true_of_le (Nat.le_refl _)] at k2; cases k2
      rw [delN_f this, ih k1]
  exact this h.l ok.lt
theorem mk_end {h : MH} (ok : h.Ok) {c : Nat} {fn : List Str} {fv : List W} (nr : noRefs fv = true) : rsR h ((R.ok W.non (h.new (.ins c fn fv))).bind (aft h.nx true)) = .ok (.ins c fn fv) h := by
  show rsR h (match (h.new (.ins c fn fv)).get h.nx with
    | some o => R.ok o.toW ((h.new (.ins c fn fv)).del h.nx)
    | none => .stuck) = _
  rw [get_new]
  simp only
  rw [del_new ok]
  show R.ok (W.ins c fn fv) (rsH h (W.ins c fn fv) ⟨h.nx + 1, h.l⟩) = _
  rw [rs_over ok (show h.Over ⟨h.nx + 1, h.l⟩ from ok.lt) (by rw [noRef]; exact nr)]
theorem make_go {c : Nat} {mf : FM} {dws : List W} {as : AM} {me : Me} {h : MH} {ws : List W} {fn : List Str} {fv : List W} (ok : h.Ok) (e : as me h = .ok ws h) (e2 : mf (.ref h.nx :: (ws ++ dws)) (h.new (.ins c [] [])) = .ok .non (h.new (.ins c fn fv))) (nr : noRefs fv = true) :
    mRs (mMake c mf dws true as) me h = .ok (.ins c fn fv) h := by
  unfold mRs mMake
  rw [e]; simp only [bind_ok]
  rw [e2]
  exact mk_end ok nr
theorem makeK_go {c n m : Nat} {mf : FM} {as az : AM} {me : Me} {h : MH} {ws zs : List W} {fn : List Str} {fv : List W} (ok : h.Ok) (e : as me h = .ok ws h) (ez : az me h = .ok zs h) (l1 : ws.length = n) (l2 : zs.length = m) (e2 : mf (.ref h.nx :: (ws ++ zs)) (h.new (.ins c [] [])) = .ok .non (h.new (.ins c fn fv))) (nr : noRefs fv = true) :
    mRs (mMakeK c n m mf true as az) me h = .ok (.ins c fn fv) h := by
  unfold mRs mMakeK
  rw [e]; simp only [bind_ok]
  rw [ez]; simp only [bind_ok]
  rw [l1, l2, Nat.beq_refl, Nat.beq_refl]
  simp only
  rw [e2]
  exact mk_end ok nr
theorem for_nx' {α : Type} {enc : α -> W} {g : GM} {b : SM} {xs : List α} (Inv : List α -> Me -> MH -> Prop)
    (hb : ∀ done x rest me h, xs = done ++ x :: rest -> Inv done me h -> ∃ me1, g (enc x) me = some me1 /\ ∃ me2 h2, b me1 h = .nx me2 h2 /\ Inv (done ++ [x]) me2 h2) :
    ∀ (rest done : List α) (me : Me) (h : MH), xs = done ++ rest -> Inv done me h -> ∃ me' h', sFor g b (rest.map enc) me h = .nx me' h' /\ Inv xs me' h'
  | [], done, me, h, e, i => ⟨me, h, rfl, by rw [e, List.append_nil]; exact i⟩
  | x :: rest, done, me, h, e, i => by
    obtain ⟨me1, e1, me2, h2, e2, i2⟩ := hb done x rest me h e i
    obtain ⟨me', h', e3, i3⟩ := for_nx' Inv hb rest (done ++ [x]) me2 h2 (by rw [e]; simp) i2
    refine ⟨me', h', ?_, i3⟩
    rw [List.map_cons, sFor]
    simp only [e1, e2]
    exact e3
theorem fi_nx {α : Type} {enc : α -> W} {src : AM} {g : GM} {b : SM} {me : Me} {h h1 : MH} {xs : List α} (Inv : List α -> Me -> MH -> Prop) (hs : src me h = .ok (xs.map enc) h1) (i0 : Inv [] me h1)
    (hb : ∀ done x rest me h, xs = done ++ x :: rest -> Inv done me h -> ∃ me1, g (enc x) me = some me1 /\ ∃ me2 h2, b me1 h = .nx me2 h2 /\ Inv (done ++ [x]) me2 h2) : ∃ me' h', sForI src g b me h = .nx me' h' /\ Inv xs me' h' := by
  obtain ⟨me', h', e, i⟩ := for_nx' Inv hb xs [] me h1 rfl i0
  exact ⟨me', h', fi_go hs e, i⟩
theorem lc_st' {α β : Type} {enc : α -> W} {f : β -> W} {g : GM} {t e : EM} {me0 : Me} {xs : List α} (St : List α -> List β -> MH -> Prop)
    (hb : ∀ done x rest out h, xs = done ++ x :: rest -> St done out h -> ∃ me1, g (enc x) me0 = some me1 /\ ((∃ h', t me1 h = .ok (.bl false) h' /\ St (done ++ [x]) out h') \/ (∃ h' y h'', t me1 h = .ok (.bl true) h' /\ e me1 h' = .ok (f y) h'' /\ St (done ++ [x]) (out ++ [y]) h''))) :
    ∀ (rest done : List α) (out : List β) (h : MH), xs = done ++ rest -> St done out h -> ∃ out' h', lcM g t e me0 (rest.map enc) ((out.map f).reverse) h = .ok ((out'.map f).reverse) h' /\ St xs out' h'
  | [], done, out, h, e, i => ⟨out, h, rfl, by rw [e, List.append_nil]; exact i⟩
  | x :: rest, done, out, h, e, i => by
    obtain ⟨me1, e1, r⟩ := hb done x rest out h e i
    rw [List.map_cons, lcM]
    rcases r with ⟨h', e2, i2⟩ | ⟨h', y, h'', e2, e3, i2⟩
    · obtain ⟨out', h3, e4, i4⟩ := lc_st' St hb rest (done ++ [x]) out h' (by rw [e]; simp) i2
      refine ⟨out', h3, ?_, i4⟩
      simp only [e1, e2, nox_ok, bind_ok]
      exact e4
    · obtain ⟨out', h3, e4, i4⟩ := lc_st' St hb rest (done ++ [x]) (out ++ [y]) h'' (by rw [e]; simp) i2
      refine ⟨out', h3, ?_, i4⟩
      simp only [e1, e2, e3, nox_ok, bind_ok]
      rw [List.map_append, List.reverse_append] at e4
      exact e4
theorem lc_st {α β : Type} {enc : α -> W} {f : β -> W} {src : AM} {g : GM} {t e : EM} {vs : List Nat} {me : Me} {h h1 : MH} {xs : List α} (St : List α -> List β -> MH -> Prop) (hs : src me h = .ok (xs.map enc) h1) (hl : xs.length <= 100000) (i0 : St [] [] h1)
    (hb : ∀ done x rest out h, xs = done ++ x :: rest -> St done out h -> ∃ me1, g (enc x) (wipeW me vs) = some me1 /\ ((∃ h', t me1 h = .ok (.bl false) h' /\ St (done ++ [x]) out h') \/ (∃ h' y h'', t me1 h = .ok (.bl true) h' /\ e me1 h' = .ok (f y) h'' /\ St (done ++ [x]) (out ++ [y]) h''))) :
    ∃ out h', mLc src g t e vs me h = .ok (.lst (out.map f)) h' /\ St xs out h' := by
  obtain ⟨out, h', e1, i⟩ := lc_st' (f := f) St hb xs [] [] h1 rfl i0
  refine ⟨out, h', ?_, i⟩
  unfold mLc
  rw [hs]
  have l : lenOk (xs.map enc) = true := by
    unfold lenOk
    rw [List.length_map]
    exact Nat.ble_eq_true_of_le (by omega)
  simp only [List.map_nil, List.reverse_nil] at e1
  simp only [bind_ok, l, e1, rev_eq, List.reverse_reverse]
theorem asg_go {g : GM} {m : EM} {me me1 : Me} {w : W} {h h1 : MH} (e : m me h = .ok w h1) (e2 : g w me = some me1) : sAsg g m me h = .nx me1 h1 := by
  unfold sAsg
  rw [e]
  simp only [ofE_ok, e2]
theorem lstOf_ref {h : MH} {n : Nat} {ws : List W} (e : h.get n = some (.lst ws)) : lstOf (.ref n) h = some ws := by
  unfold lstOf
  simp only [e]
theorem ix_ref {h : MH} {n : Nat} {ws : List W} {i : Int} {w : W} (e : h.get n = some (.lst ws)) (a : atI ws i = some w) : wIx (.ref n) (.int i) h = some w := by
  show (match lstOf (.ref n) h with
    | some ws => atI ws i
    | none => _) = _
  rw [lstOf_ref e]
  exact a
theorem beq_f {n m : Nat} (h : n ≠ m) : Nat.beq n m = false := by
  cases q : Nat.beq n m with
  | false => rfl
  | true => exact absurd (Nat.eq_of_beq_eq_true q) h
theorem setN_comm {n m : Nat} {o u : O} (ne : n ≠ m) : ∀ l : List (Nat × O), setN n o (setN m u l) = setN m u (setN n o l)
  | [] => rfl
  | (k, x) :: r => by
    cases e1 : Nat.beq n k with
    | true =>
      have ek := Nat.eq_of_beq_eq_true e1
      have e2 : Nat.beq m k = false := beq_f (by rw [<- ek]; exact Ne.symm ne)
      rw [setN_f e2, setN_t e1, setN_t e1, setN_f e2]
    | false =>
      cases e2 : Nat.beq m k with
      | true => rw [setN_t e2, setN_f e1, setN_f e1, setN_t e2]
      | false => rw [setN_f e2, setN_f e1, setN_f e1, setN_f e2, setN_comm ne r]
theorem delN_comm {n m : Nat} {o : O} (ne : n ≠ m) : ∀ l : List (Nat × O), setN n o (delN m l) = delN m (setN n o l)
  | [] => rfl
  | (k, x) :: r => by
    cases e1 : Nat.beq n k with
    | true =>
      have ek := Nat.eq_of_beq_eq_true e1
      have e2 : Nat.beq m k = false := beq_f (by rw [<- ek]; exact Ne.symm ne)
      rw [delN_f e2, setN_t e1, setN_t e1, delN_f e2]
    | false =>
      cases e2 : Nat.beq m k with
      | true => rw [delN_t e2, setN_f e1, delN_t e2, delN_comm ne r]
      | false => rw [delN_f e2, setN_f e1, setN_f e1, delN_f e2, delN_comm ne r]
def scW (ns : List Int) (by_ : Int) (k : Nat) : O := .lst [.scr ns, .int by_, .int (k : Int)]
structure Fam (n : Nat) (ns : List Int) (by_ : Int) (S G : Nat -> MH) : Prop where
  on : ∀ k, On (S k) (G k)
  get : ∀ k, (G k).get n = some (scW ns by_ k)
  set : ∀ k k', (G k).set n (scW ns by_ k') = G k'
  nx : ∀ k, (G k).nx = (G 0).nx
  snx : ∀ k, (S k).nx = (S 0).nx
  lt : n < (S 0).nx
section
variable {n : Nat} {ns : List Int} {by_ : Int} {S G : Nat -> MH}
theorem Fam.ok (F : Fam n ns by_ S G) (k : Nat) : (G k).Ok := (F.on k).ok
theorem Fam.le (F : Fam n ns by_ S G) (k : Nat) : (S 0).nx <= (G k).nx := by rw [<- F.snx k]; exact (F.on k).le
theorem Fam.base (F : Fam n ns by_ S G) : Fam n ns by_ G G := ⟨fun k => On.rfl' (F.ok k), F.get, F.set, F.nx, F.nx, Nat.lt_of_lt_of_le F.lt (F.le 0)⟩
theorem Fam.new (F : Fam n ns by_ S G) {o : O} (ho : noRefO o = true) : Fam n ns by_ S fun k => (G k).new o where
  on := fun k => (F.on k).new ho
  get := fun k => by
    have := F.le k
    have := F.lt
    rw [get_new_other (by omega)]
    exact F.get k
  set := fun k k' => by
    have := F.le k
    have := F.lt
    have e := F.set k k'
    have nx : (G k).nx = (G k').nx := (F.nx k).trans (F.nx k').symm
    show (⟨(G k).nx + 1, setN n (scW ns by_ k') (((G k).nx, o) :: (G k).l)⟩ : MH) = ⟨(G k').nx + 1, ((G k').nx, o) :: (G k').l⟩
    rw [setN_f (beq_f (by omega)), nx]
    congr 2
    exact congrArg MH.l e
  nx := fun k => by
    show (G k).nx + 1 = (G 0).nx + 1
    rw [F.nx k]
  snx := F.snx
  lt := F.lt
theorem Fam.put (F : Fam n ns by_ S G) {m : Nat} (hm : (S 0).nx <= m) {o : O} (ho : noRefO o = true) : Fam n ns by_ S fun k => (G k).set m o where
  on := fun k => (F.on k).set (by rw [F.snx k]; exact hm) ho
  get := fun k => by
    have := F.lt
    rw [get_set_other (by omega)]
    exact F.get k
  set := fun k k' => by
    have := F.lt
    have e := F.set k k'
    show (⟨(G k).nx, setN n (scW ns by_ k') (setN m o (G k).l)⟩ : MH) = ⟨(G k').nx, setN m o (G k').l⟩
    rw [setN_comm (by omega), <- e]
    rfl
  nx := F.nx
  snx := F.snx
  lt := F.lt
theorem Fam.del (F : Fam n ns by_ S G) {m : Nat} (hm : (S 0).nx <= m) : Fam n ns by_ S fun k => (G k).del m where
  on := fun k => (F.on k).del (by rw [F.snx k]; exact hm)
  get := fun k => by
    have := F.lt
    rw [get_del_other (by omega)]
    exact F.get k
  set := fun k k' => by
    have := F.lt
    have e := F.set k k'
    show (⟨(G k).nx, setN n (scW ns by_ k') (delN m (G k).l)⟩ : MH) = ⟨(G k').nx, delN m (G k').l⟩
    rw [delN_comm (by omega), <- e]
    rfl
  nx := F.nx
  snx := F.snx
  lt := F.lt
end
def hp (S : Nat -> MH) (N : Nat) (bs : List (Nat × O)) (k : Nat) : MH := ⟨N, bs ++ (S k).l⟩
structure Bx (N0 N : Nat) (bs : List (Nat × O)) : Prop where
  le : N0 <= N
  b : ∀ q ∈ bs, N0 <= q.1 /\ q.1 < N /\ noRefO q.2 = true
theorem Bx.nil {N0 N : Nat} (h : N0 <= N) : Bx N0 N [] := ⟨h, fun _ hq => by cases hq⟩
theorem Bx.cons {N0 N m : Nat} {o : O} {bs : List (Nat × O)} (B : Bx N0 N bs) (h1 : N0 <= m) (h2 : m < N) (ho : noRefO o = true) : Bx N0 N ((m, o) :: bs) := ⟨B.le, fun q hq => by
  rcases List.mem_cons.mp hq with rfl | e
  · exact ⟨h1, h2, ho⟩
  · exact B.b q e⟩
theorem Bx.tail {N0 N m : Nat} {o : O} {bs : List (Nat × O)} (B : Bx N0 N ((m, o) :: bs)) : Bx N0 N bs := ⟨B.le, fun q hq => B.b q (List.mem_cons_of_mem _ hq)⟩
theorem Bx.up {N0 N N' : Nat} {bs : List (Nat × O)} (B : Bx N0 N bs) (h : N <= N') : Bx N0 N' bs := ⟨Nat.le_trans B.le h, fun q hq => by
  obtain ⟨a, b, c⟩ := B.b q hq
  exact ⟨a, by omega, c⟩⟩
theorem Bx.new {N0 N : Nat} {o : O} {bs : List (Nat × O)} (B : Bx N0 N bs) (ho : noRefO o = true) : Bx N0 (N + 1) ((N, o) :: bs) := (B.up (Nat.le_succ _)).cons B.le (Nat.lt_succ_self _) ho
theorem ble_t {k m : Nat} (h : k <= m) : Nat.ble k m = true := Nat.ble_eq_true_of_le h
theorem ble_f {k m : Nat} (h : m < k) : Nat.ble k m = false := by
  cases q : Nat.ble k m with
  | false => rfl
  | true => exact absurd (Nat.le_of_ble_eq_true q) (by omega)
section
variable {n : Nat} {ns : List Int} {by_ : Int} {S : Nat -> MH}
theorem hp_fam (F : Fam n ns by_ S S) {N : Nat} {bs : List (Nat × O)} (B : Bx (S 0).nx N bs) : Fam n ns by_ S (hp S N bs) where
  on := fun k => by
    have nx := F.snx k
    have ok := F.ok k
    refine ⟨?_, ⟨?_, ?_⟩, by rw [nx]; exact B.le⟩
    · show keepLt (S k).nx (bs ++ (S k).l) = (S k).l
      rw [nx]
      have := ok.lt
      rw [nx] at this
      induction bs with
      | nil => exact this
      | cons q r ih =>
        obtain ⟨m, o⟩ := q
        rw [List.cons_append, keepLt_t (ble_t (B.b _ List.mem_cons_self).1)]
        exact ih B.tail
    · show keepLt N (bs ++ (S k).l) = bs ++ (S k).l
      induction bs with
      | nil =>
        have lt := ok.lt
        rw [nx] at lt
        exact keepLt_up B.le lt
      | cons q r ih =>
        obtain ⟨m, o⟩ := q
        rw [List.cons_append, keepLt_f (ble_f (B.b _ List.mem_cons_self).2.1), ih B.tail]
    · show refLtL N (bs ++ (S k).l) = true
      induction bs with
      | nil =>
        have z := ok.nr
        rw [nx] at z
        exact refLtL_up B.le z
      | cons q r ih =>
        obtain ⟨m, o⟩ := q
        rw [List.cons_append, refLtL, refLtO_of _ (B.b _ List.mem_cons_self).2.2, ih B.tail]
        rfl
  get := fun k => by
    have g := F.get k
    show lookN n (bs ++ (S k).l) = _
    induction bs with
    | nil => exact g
    | cons q r ih =>
      obtain ⟨m, o⟩ := q
      have h1 := (B.b _ List.mem_cons_self).1
      have h2 := F.lt
      have : Nat.beq n m = false := beq_f (by omega)
      rw [List.cons_append, lookN, this]
      exact ih B.tail
  set := fun k k' => by
    have g : setN n (scW ns by_ k') (S k).l = (S k').l := congrArg MH.l (F.set k k')
    show (⟨N, setN n (scW ns by_ k') (bs ++ (S k).l)⟩ : MH) = ⟨N, bs ++ (S k').l⟩
    congr 1
    induction bs with
    | nil => exact g
    | cons q r ih =>
      obtain ⟨m, o⟩ := q
      have h1 := (B.b _ List.mem_cons_self).1
      have h2 := F.lt
      have : Nat.beq n m = false := beq_f (by omega)
      rw [List.cons_append, setN_f this, ih B.tail]
      rfl
  nx := fun _ => rfl
  snx := F.snx
  lt := F.lt
theorem hp0 (F : Fam n ns by_ S S) (k : Nat) : S k = hp S (S 0).nx [] k := by
  show S k = ⟨(S 0).nx, (S k).l⟩
  rw [<- F.snx k]
theorem hp_get {N m : Nat} {bs : List (Nat × O)} {k : Nat} {o : O} (e : lookN m bs = some o) : (hp S N bs k).get m = some o := by
  show lookN m (bs ++ (S k).l) = _
  induction bs with
  | nil => cases e
  | cons q r ih =>
    obtain ⟨j, u⟩ := q
    rw [List.cons_append]
    unfold lookN at e ⊢
    cases z : Nat.beq m j with
    | true => rw [z] at e; exact e
    | false => rw [z] at e; exact ih e
theorem hp_set {N m : Nat} {bs : List (Nat × O)} {k : Nat} {u o : O} (e : lookN m bs = some u) : (hp S N bs k).set m o = hp S N (setN m o bs) k := by
  show (⟨N, setN m o (bs ++ (S k).l)⟩ : MH) = ⟨N, setN m o bs ++ (S k).l⟩
  congr 1
  induction bs with
  | nil => cases e
  | cons q r ih =>
    obtain ⟨j, v⟩ := q
    unfold lookN at e
    cases z : Nat.beq m j with
    | true => rw [List.cons_append, setN_t z, setN_t z]; rfl
    | false => rw [z] at e; rw [List.cons_append, setN_f z, setN_f z, ih e]; rfl
theorem delN_lt {m k : Nat} (h : k <= m) : ∀ {l : List (Nat × O)}, keepLt k l = l -> delN m l = l
  | [], _ => rfl
  | (j, u) :: r, e => by
    obtain ⟨k1, k2⟩ := keepLt_inv e
    have : j < k := Nat.lt_of_not_le fun q => by rw [Nat.ble_eq_true_of_le q] at k2; cases k2
    rw [delN_f (beq_f (by omega)), delN_lt h k1]
theorem hp_del (F : Fam n ns by_ S S) {N m : Nat} {bs : List (Nat × O)} {k : Nat} (h : (S 0).nx <= m) : (hp S N bs k).del m = hp S N (delN m bs) k := by
  show (⟨N, delN m (bs ++ (S k).l)⟩ : MH) = ⟨N, delN m bs ++ (S k).l⟩
  congr 1
  have lt := (F.ok k).lt
  rw [F.snx k] at lt
  induction bs with
  | nil => exact delN_lt h lt
  | cons q r ih =>
    obtain ⟨j, v⟩ := q
    cases z : Nat.beq m j with
    | true => rw [List.cons_append, delN_t z, delN_t z, ih]
    | false => rw [List.cons_append, delN_f z, delN_f z, ih]; rfl
end
theorem look_hd {m : Nat} {o : O} {r : List (Nat × O)} : lookN m ((m, o) :: r) = some o := by
  unfold lookN
  rw [Nat.beq_refl]
theorem setN_hd {m : Nat} {o u : O} {r : List (Nat × O)} : setN m o ((m, u) :: r) = (m, o) :: r := setN_t (Nat.beq_refl _)
theorem delN_hd {m : Nat} {u : O} {r : List (Nat × O)} : delN m ((m, u) :: r) = delN m r := delN_t (Nat.beq_refl _)
theorem delN_tl {m j : Nat} {u : O} {r : List (Nat × O)} (ne : m ≠ j) : delN m ((j, u) :: r) = (j, u) :: delN m r := delN_f (beq_f ne)
theorem put_go {mo mi mv : EM} {me : Me} {h h1 h2 h3 : MH} {w k : W} {n : Nat} {ks vs : List W} (e1 : mv me h = .ok w h1) (e2 : mo me h1 = .ok (.ref n) h2) (e3 : mi me h2 = .ok k h3) (g : h3.get n = some (.dct ks vs)) (f : fitPut k ks = true) : sPut mo mi mv me h = .nx me (h3.set n (.dct (dputK k ks) (dputV k w ks vs))) := by
  unfold sPut
  rw [e1]; simp only [ofE_ok]
  rw [e2]; simp only [ofE_ok]
  rw [e3]; simp only [ofE_ok]
  unfold sPutEnd
  simp only [g, f]
theorem frzd_go {i n : Nat} {me : Me} {h : MH} {ks vs : List W} (e : nth me i = some (.ref n)) (e2 : h.get n = some (.dct ks vs)) : sFrz i me h = .nx (put me i (.dct ks vs)) (h.del n) := by
  unfold sFrz
  simp only [e, e2]
  rfl
theorem dput_mem {κ β : Type} [DecidableEq κ] {k : κ} {v : β} {q : κ × β} : ∀ {l : List (κ × β)}, q ∈ dput k v l -> q = (k, v) \/ q ∈ l
  | [], h => by
    unfold dput at h
    exact .inl (List.mem_singleton.mp h)
  | (a, b) :: r, h => by
    unfold dput at h
    split at h
    · rename_i e
      rcases List.mem_cons.mp h with z | z
      · exact .inl (by rw [z, e])
      · exact .inr (List.mem_cons_of_mem _ z)
    · rcases List.mem_cons.mp h with z | z
      · exact .inr (by rw [z]; exact List.mem_cons_self)
      · exact (dput_mem z).imp id (List.mem_cons_of_mem _)
section
variable {σ : Type} {n : Nat} {sc : σ -> O} {s0 : σ} {S G : σ -> MH}
end
section
variable {σ : Type} {n : Nat} {sc : σ -> O} {s0 : σ} {S : σ -> MH}
end
end Mi
end
section
namespace Mi
open PySem PySem.SeqAt
open AutoSeq1 (wpAny_loadPart')
open MeetsSeq MeetsSeq2 MeetsSeq3 SeqRoads2 GQ
section
variable {prog : Program} {w : World} {A : Around} {R : Result -> Shared -> Prop}
def LstAt (s : Shared) (l : Addr) (N : Nat) (items : Array Value) : Prop := ∃ n, s.heap.get? l = some { cls := .type "list", data := .seq items n } /\ items.size = N
theorem eq_loopB (l b : Addr) (N : Nat) (I : Nat -> Shared -> Prop) (J : Shared -> Prop)
    (hl : ∀ i s, I i s -> ∃ (items items2 : Array Value), LstAt s l N items /\ LstAt s b N items2 /\ ∀ (h1 : i < items.size) (h2 : i < items2.size), wpAny (model prog w) A.in1 (eqBool items[i] items2[i]) (fun r s' => (r = true /\ I (i + 1) s') \/ (r = false /\ J s')) (fun e s' => R (.error e) s') s)
    (hj : ∀ s, J s -> (∃ items, LstAt s l N items) /\ (∃ items, LstAt s b N items) /\ R (.ok (.ret (.bool false))) s)
    (fin : ∀ s, I N s -> R (.ok (.ret (.bool true))) s) (k : Nat) :
    ∀ i : Nat, N - i = k -> i <= N -> ∀ s, I i s ->
      wpAny (model prog w) A.in1 (Builtin.«list.__eq__.loop» ⟨[.ref l, .ref b, rawInt i, rawInt 2], []⟩) (FinOf prog w A R) (fun e s' => R (.error e) s') s := by
  induction k with
  | zero =>
    intro i hk hi s h
    obtain ⟨items, items2, ⟨n, hl1, hs1⟩, ⟨n2, hb1, hs2⟩, _⟩ := hl _ _ h
    have hi' : i = N := by omega
    have hR : R (.ok (.ret (.bool true))) s := fin s (hi' ▸ h)
    obtain ⟨hp, g, d, tk, os⟩ := s
    wp_walk using wpAny_loadPart' hl1, wpAny_loadPart' hb1
    have hi1 : items[((i : Nat) : Int).toNat]? = none := by simp; omega
    have hi2 : items2[((i : Nat) : Int).toNat]? = none := by simp; omega
    rw [hi1, hi2]
    wp_walk using wpAny_loadPart' hl1, wpAny_loadPart' hb1
    show R (.ok (.ret (.bool (items.size == items2.size)))) _
    rw [hs1, hs2]
    simpa using hR
  | succ k ih =>
    intro i hk hi s h
    obtain ⟨items, items2, ⟨n, hl1, hs1⟩, ⟨n2, hb1, hs2⟩, turn⟩ := hl _ _ h
    have hlt : i < items.size := by omega
    have hlt2 : i < items2.size := by omega
    have ht := turn hlt hlt2
    obtain ⟨hp, g, d, tk, os⟩ := s
    wp_walk using wpAny_loadPart' hl1, wpAny_loadPart' hb1
    have hi1 : items[((i : Nat) : Int).toNat]? = some items[i] := by simp [hlt]
    have hi2 : items2[((i : Nat) : Int).toNat]? = some items2[i] := by simp [hlt2]
    have hc : ((i : Int) + 1) = ((i + 1 : Nat) : Int) := by omega
    rw [hi1, hi2]
    refine wpAny_bind (wpAny_mono ht (fun r s2 h2 => ?_) fun _ _ x => x)
    rcases h2 with ⟨hr, h2⟩ | ⟨hr, h2⟩
    · subst hr
      have hrec := ih (i + 1) (by omega) (by omega) s2 h2
      obtain ⟨hp2, g2, d2, tk2, os2⟩ := s2
      wp_walk
      rw [hc]
      exact ⟨plainId_quiet plain_eq_loop _, codeAny_builtin entry_eq_loop (by
        rw [Around.under_plainId plain_eq_loop _]
        exact hrec)⟩
    · subst hr
      obtain ⟨⟨its, m, hl2, hz1⟩, ⟨its2, m2, hb2, hz2⟩, hR⟩ := hj _ h2
      obtain ⟨hp2, g2, d2, tk2, os2⟩ := s2
      have hi1 : its[((i : Nat) : Int).toNat]? = some (its[i]'(by omega)) := by simp
      have hi2 : its2[((i : Nat) : Int).toNat]? = some (its2[i]'(by omega)) := by simp
      wp_walk using wpAny_loadPart' hl2, wpAny_loadPart' hb2
      rw [hi1, hi2]
      wp_walk
      exact hR
theorem list_eqB (l b : Addr) (N N2 : Nat) (I : Nat -> Shared -> Prop) (J : Shared -> Prop)
    (hl : ∀ i s, I i s -> ∃ (items items2 : Array Value), LstAt s l N items /\ LstAt s b N2 items2 /\ (N = N2 -> ∀ (h1 : i < items.size) (h2 : i < items2.size), wpAny (model prog w) A.in1 (eqBool items[i] items2[i]) (fun r s' => (r = true /\ I (i + 1) s') \/ (r = false /\ J s')) (fun e s' => R (.error e) s') s))
    (hj : ∀ s, J s -> (∃ items, LstAt s l N items) /\ (∃ items, LstAt s b N2 items) /\ R (.ok (.ret (.bool false))) s)
    (fin : ∀ s, N = N2 -> I N s -> R (.ok (.ret (.bool true))) s) {s : Shared} (h : I 0 s) (ne : N ≠ N2 -> R (.ok (.ret (.bool false))) s) :
    wpAny (model prog w) A.in1 (Builtin.«list.__eq__» ⟨[.ref l, .ref b], []⟩) (FinOf prog w A R) (fun e s' => R (.error e) s') s := by
  obtain ⟨items, items2, ⟨n, hl1, hs1⟩, ⟨n2, hb1, hs2⟩, _⟩ := hl _ _ h
  by_cases hN : N = N2
  · subst hN
    have hrec := eq_loopB (A := A) (R := R) l b N I J (fun i s q => let ⟨x, y, z, t, u⟩ := hl i s q; ⟨x, y, z, t, u rfl⟩) hj (fun s q => fin s rfl q) _ 0 rfl (Nat.zero_le _) s h
    obtain ⟨hp, g, d, tk, os⟩ := s
    have f3 := AutoSeq1.sub_list_list
    have hne : ¬ (items.size != items2.size) = true := by simp [hs1, hs2]
    wp_walk using wpAny_loadPart' hl1, wpAny_loadPart' hb1
    exact ⟨plainId_quiet plain_eq_loop _, codeAny_builtin entry_eq_loop (by
      rw [Around.under_plainId plain_eq_loop _]
      exact hrec)⟩
  · have hR := ne hN
    obtain ⟨hp, g, d, tk, os⟩ := s
    have f3 := AutoSeq1.sub_list_list
    have hne : (items.size != items2.size) = true := by simp [hs1, hs2, hN]
    wp_walk using wpAny_loadPart' hl1, wpAny_loadPart' hb1
    exact hR
theorem tuple_eqB (l b : Addr) (items items2 : Array Value) (n n2 : Nat) (dd dd2 : Option Addr) (sl sl2 : Array (Option Value)) (hsz : items.size = items2.size) (I : Nat -> Shared -> Prop) (J : Shared -> Prop)
    (turn : ∀ i (h1 : i < items.size) (h2 : i < items2.size) s, I i s -> wpAny (model prog w) A.in1 (eqBool items[i] items2[i]) (fun r s' => (r = true /\ I (i + 1) s') \/ (r = false /\ J s')) (fun e s' => R (.error e) s') s)
    (hj : ∀ s, J s -> R (.ok (.ret (.bool false))) s)
    (fin : ∀ s, I items.size s -> R (.ok (.ret (.bool true))) s) {s : Shared} (hl1 : s.heap.get? l = some { cls := .type "tuple", dict := dd, data := .seq items n, slots := sl }) (hb1 : s.heap.get? b = some { cls := .type "tuple", dict := dd2, data := .seq items2 n2, slots := sl2 }) (h : I 0 s) :
    wpAny (model prog w) A.in1 (Builtin.«tuple.__eq__» ⟨[.ref l, .ref b], []⟩) (FinOf prog w A R) (fun e s' => R (.error e) s') s := by
  have f2 := AutoSeq1.sub_tuple_tuple
  have hZ : (items.toList.zip items2.toList).length = items.size := by simp [hsz]
  have h0 := h
  obtain ⟨hp, g, d, tk, os⟩ := s
  wp_walk using wpAny_loadPart' hl1, wpAny_loadPart' hb1, wpAny_forIn_list _ (fun rest b s' => b.1 = none /\ ∃ i, rest = (items.toList.zip items2.toList).drop i /\ i <= items.size /\ I i s') _
  case turn =>
    rintro ⟨y, x⟩ rest b s' ⟨hb', i, hz, hi, hI⟩
    have hlt : i < (items.toList.zip items2.toList).length := by
      rcases Nat.lt_or_ge i (items.toList.zip items2.toList).length with h' | h'
      · exact h'
      · rw [List.drop_of_length_le h'] at hz; cases hz
    have h1 : i < items.size := hZ ▸ hlt
    have h2 : i < items2.size := hsz ▸ h1
    rw [List.drop_eq_getElem_cons hlt] at hz
    injection hz with hyx hrest
    have hy : y = items[i] := by have := congrArg Prod.fst hyx; simpa using this
    have hx : x = items2[i] := by have := congrArg Prod.snd hyx; simpa using this
    subst hy hx
    refine wpAny_bind (wpAny_mono (turn i h1 h2 s' hI) (fun r s2 q2 => ?_) fun _ _ x => x)
    rcases q2 with ⟨hr, q2⟩ | ⟨hr, q2⟩
    · subst hr
      wp_walk
      exact ⟨rfl, i + 1, hrest, h1, q2⟩
    · subst hr
      have hR := hj _ q2
      obtain ⟨hp2, g2, d2, tk2, os2⟩ := s2
      wp_walk
      exact hR
  case fin =>
    rintro ⟨b1, b2⟩ s' ⟨hb', i, hz, hi, hI⟩
    simp only at hb'
    subst hb'
    have hge : items.size <= i := by
      rcases Nat.lt_or_ge i (items.toList.zip items2.toList).length with h' | h'
      · rw [List.drop_eq_getElem_cons h'] at hz; cases hz
      · exact hZ ▸ h'
    have hi' : i = items.size := by omega
    have hR : R (.ok (.ret (.bool true))) s' := fin s' (hi' ▸ hI)
    wp_walk
    simpa [Builtin.Tuple.tupleCompareSizes, hsz] using hR
  case h =>
    exact ⟨rfl, 0, rfl, Nat.zero_le _, h0⟩
end
section
variable {prog : Program} {w : World} {A : Around} {E : Value -> Shared -> Prop} {s : Shared}
theorem rc_listB {l b : Addr} {N N2 : Nat} {Q : Value -> Shared -> Prop} (hu : A.units < cLine) (I : Nat -> Shared -> Prop) (J : Shared -> Prop)
    (hl : ∀ i s, I i s -> ∃ (items items2 : Array Value), LstAt s l N items /\ LstAt s b N2 items2 /\ (N = N2 -> ∀ (h1 : i < items.size) (h2 : i < items2.size), wpAny (model prog w) A.in1 (eqBool items[i] items2[i]) (fun r s' => (r = true /\ I (i + 1) s') \/ (r = false /\ J s')) E s))
    (hj : ∀ s, J s -> (∃ items, LstAt s l N items) /\ (∃ items, LstAt s b N2 items) /\ Q (.bool false) s)
    (fin : ∀ s, N = N2 -> I N s -> Q (.bool true) s) (h : I 0 s) (ne : N ≠ N2 -> Q (.bool false) s) : wpAny (model prog w) A (richCompare .Eq (.ref l) (.ref b)) Q E s := by
  obtain ⟨items, items2, ⟨n, hl1, hs1⟩, ⟨n2, hb1, hs2⟩, _⟩ := hl _ _ h
  refine wpAny_richCompare_same_room (op := .Eq) ⟨_, hl1, rfl⟩ ⟨_, hb1, rfl⟩ F.slot_list_eq (call_here F.slot_list_eq ⟨_, hl1, rfl⟩ F.entry_list_eq (F.args_list_eq_2 _ _) ?_) hu
  exact list_eqB (R := wants (fun v s' => v ≠ .notImplemented /\ Q v s') E) l b N N2 I J hl (fun s' q => ⟨(hj s' q).1, (hj s' q).2.1, (fun x => nomatch x), (hj s' q).2.2⟩) (fun s' e q => ⟨(fun x => nomatch x), fin s' e q⟩) h fun z => ⟨(fun x => nomatch x), ne z⟩
theorem rc_tupB {l b : Addr} {items items2 : Array Value} {Q : Value -> Shared -> Prop} (hsz : items.size = items2.size) (hu : A.units < cLine) (I : Nat -> Shared -> Prop) (J : Shared -> Prop)
    (hl : s.heap.IsTuple l items) (hb : s.heap.IsTuple b items2)
    (turn : ∀ i (h1 : i < items.size) (h2 : i < items2.size) s, I i s -> wpAny (model prog w) A.in1 (eqBool items[i] items2[i]) (fun r s' => (r = true /\ I (i + 1) s') \/ (r = false /\ J s')) E s)
    (hj : ∀ s, J s -> Q (.bool false) s)
    (fin : ∀ s, I items.size s -> Q (.bool true) s) (h : I 0 s) : wpAny (model prog w) A (richCompare .Eq (.ref l) (.ref b)) Q E s := by
  obtain ⟨⟨cls, dd, data, sl⟩, ho, hc, n, hd⟩ := id hl
  obtain ⟨⟨cls2, dd2, data2, sl2⟩, ho2, hc2, n2, hd2⟩ := id hb
  simp only at hc hd hc2 hd2
  subst hc hd hc2 hd2
  refine wpAny_richCompare_same_room (op := .Eq) ⟨_, ho, rfl⟩ ⟨_, ho2, rfl⟩ F.slot_tuple_eq (call_here F.slot_tuple_eq ⟨_, ho, rfl⟩ F.entry_tuple_eq (F.args_tuple_eq_2 _ _) ?_) hu
  exact tuple_eqB (R := wants (fun v s' => v ≠ .notImplemented /\ Q v s') E) l b items items2 n n2 dd dd2 sl sl2 hsz I J turn (fun s' q => ⟨(fun x => nomatch x), hj s' q⟩) (fun s' q => ⟨(fun x => nomatch x), fin s' q⟩) ho ho2 h
end
end Mi
end
section
namespace Mi
open PySem PySem.Spec PyProof.Rows L2
variable {G : Kt} {X : Cx} {adr : Ad} {Y : WX}
def ntB (H : Hp) (a : Addr) : Bool := match H a with
  | some (.tbl _) => false
  | _ => true
theorem ntB_of {H : Hp} {a : Addr} (h : ntB H a = true) : ∀ ps, H a ≠ some (.tbl ps) := fun ps e => by
  unfold ntB at h
  rw [e] at h
  cases h
theorem ntB_not {H : Hp} {a : Addr} (h : ntB H a = false) : ∃ ps, H a = some (.tbl ps) := by
  unfold ntB at h
  split at h
  · rename_i ps e
    exact ⟨ps, e⟩
  · cases h
def hidAll (T : Tie) (H : Hp) : Tie := ⟨fun _ => none, 0, ((List.range T.nx).filterMap T.ρ ++ T.hid).filter (ntB H), T.nm⟩
theorem hidAll_mem {T : Tie} {H : Hp} (ok : T.Ok H) {a : Addr} : a ∈ (hidAll T H).hid ↔ ((∃ n, T.ρ n = some a) \/ a ∈ T.hid) /\ ntB H a = true := by
  unfold hidAll
  simp only [List.mem_filter, List.mem_append, List.mem_filterMap, List.mem_range]
  refine and_congr_left fun _ => ⟨?_, ?_⟩
  · rintro (⟨n, _, e⟩ | h)
    · exact .inl ⟨n, e⟩
    · exact .inr h
  · rintro (⟨n, e⟩ | h)
    · exact .inl ⟨n, ok.lt n a e, e⟩
    · exact .inr h
theorem hidAll_ok {T : Tie} {H : Hp} (ok : T.Ok H) : (hidAll T H).Ok H :=
  ⟨fun _ _ e => (nomatch e), fun _ _ _ e => (nomatch e), fun _ _ e => (nomatch e), fun _ _ e => (nomatch e), fun a h => by
    rcases ((hidAll_mem ok).mp h).1 with ⟨n, e⟩ | h
    · exact ok.there n a e
    · exact ok.hidT a h⟩
theorem hidAll_rel {G' : Kt} {T : Tie} {h : MH} {H : Hp} (hr : Hrel G T h H) (n : G'.adr.tb = []) : Hrel G' (hidAll T H) h0 H := ⟨hidAll_ok hr.ok, rfl, fun _ _ e => (nomatch e), fun p hp => by rw [n] at hp; cases hp⟩
theorem sim_bare {X : Cx} {adr : Ad} : Sim (kt X adr) (kt X adr.bare) /\ Sim (kt X adr.bare) (kt X adr) := ⟨⟨rfl, rfl, rfl⟩, ⟨rfl, rfl, rfl⟩⟩
theorem hidAll_fz {T : Tie} {H : Hp} (ok : T.Ok H) {a : Addr} (f : Fz T a) : Fz (hidAll T H) a := ⟨fun _ e => (nomatch e), fun h => by
  rcases ((hidAll_mem ok).mp h).1 with ⟨n, e⟩ | h
  · exact f.own n e
  · exact f.hid h⟩
theorem hidAll_grow {T T' : Tie} {H H' : Hp} (ok : T.Ok H) (x : Ex (hidAll T H) T' H H') : Grow H H' := fun a o e => by
  by_cases h : a ∈ (hidAll T H).hid
  · exact (x.hidS a h (ntB_of ((hidAll_mem ok).mp h).2)).trans e
  · exact x.fz a o e ⟨fun _ e => (nomatch e), h⟩
section
variable {T T' : Tie} {H : Hp}
mutual
theorem rep_nr (hf : ∀ a o, H a = some o -> (∀ ps, o ≠ .tbl ps) -> Fz T a -> Fz T' a) : ∀ (w : W) (v : V), noRef w = true -> Rep G T H w v -> Rep G T' H w v
  | .non, v, _, h => h
  | .bl _, v, _, h => h
  | .int _, v, _, h => h
  | .str _, v, _, h => h
  | .tup ws, v, k, h => by
    unfold noRef at k
    unfold Rep at h ⊢
    obtain ⟨a, vs, e, f, q, r⟩ := h
    exact ⟨a, vs, e, hf a _ q (fun _ z => nomatch z) f, q, reps_nr hf ws vs k r⟩
  | .lst ws, v, k, h => by
    unfold noRef at k
    unfold Rep at h ⊢
    obtain ⟨a, vs, e, f, q, r⟩ := h
    exact ⟨a, vs, e, hf a _ q (fun _ z => nomatch z) f, q, reps_nr hf ws vs k r⟩
  | .dct ks vs, v, k, h => by
    unfold noRef at k
    obtain ⟨k1, k2⟩ := Bool.and_eq_true_iff.mp k
    unfold Rep at h ⊢
    obtain ⟨a, o, kv, vv, e, f, sm, ko, q, d, r1, r2⟩ := h
    exact ⟨a, o, kv, vv, e, hf a _ q (fun ps => exact_ne_tbl ps) f, sm, ko, q, d, reps_nr hf ks kv k1 r1, reps_nr hf vs vv k2 r2⟩
  | .ins c fn fv, v, k, h => by
    unfold noRef at k
    unfold Rep at h ⊢
    obtain ⟨a, dx, vv, e, f, f2, q, q2, l, r⟩ := h
    exact ⟨a, dx, vv, e, hf a _ q (fun _ z => nomatch z) f, hf dx _ q2 (fun _ z => nomatch z) f2, q, q2, l, reps_nr hf fv vv k r⟩
  | .ref n, v, k, h => by unfold noRef at k; cases k
  | .ty _, v, _, h => by unfold Rep at h ⊢; exact h
  | .cl _, v, _, h => by unfold Rep at h ⊢; exact h
  | .kt0, v, _, h => by unfold Rep at h ⊢; exact h
  | .lamO k, v, _, h => by
    unfold Rep at h ⊢
    obtain ⟨f, c, pm, ctv, e, ff, q, fc, qc⟩ := h
    exact ⟨f, c, pm, ctv, e, hf f _ q (fun _ z => nomatch z) ff, q, hf c _ qc (fun _ z => nomatch z) fc, qc⟩
  | .lam k cs, v, k', h => by
    unfold noRef at k'
    unfold Rep at h ⊢
    obtain ⟨f, c, pm, ctv, vs, e, ff, q, fc, qc, cv, r⟩ := h
    exact ⟨f, c, pm, ctv, vs, e, hf f _ q (fun _ z => nomatch z) ff, q, hf c _ qc (fun _ z => nomatch z) fc, qc, cv, reps_nr hf cs vs k' r⟩
  | .exn fn fv, v, k, h => by
    unfold noRef at k
    unfold Rep at h ⊢
    obtain ⟨vv, e, f, q, l, r⟩ := h
    exact ⟨vv, e, hf _ _ q (fun _ z => nomatch z) f, q, l, reps_nr hf fv vv k r⟩
  | .scr ns, v, _, h => by
    unfold Rep at h ⊢
    obtain ⟨a, e, q⟩ := h
    refine ⟨a, e, q.imp (fun q => ⟨?_, q.2⟩) id⟩
    obtain ⟨f, q⟩ := q
    rcases q with q | ⟨o, q⟩
    · exact hf a _ q (fun _ z => nomatch z) f
    · exact hf a _ q (fun _ z => nomatch z) f
  | .dvs ks vs, v, k, h => by
    unfold noRef at k
    obtain ⟨k1, k2⟩ := Bool.and_eq_true_iff.mp k
    unfold Rep at h ⊢
    obtain ⟨b, a, o, kv, vv, e, fb, qb, f, sm, ko, q, d, r1, r2⟩ := h
    exact ⟨b, a, o, kv, vv, e, hf b _ qb (fun ps => exact_ne_tbl ps) fb, qb, hf a _ q (fun ps => exact_ne_tbl ps) f, sm, ko, q, d, reps_nr hf ks kv k1 r1, reps_nr hf vs vv k2 r2⟩
theorem reps_nr (hf : ∀ a o, H a = some o -> (∀ ps, o ≠ .tbl ps) -> Fz T a -> Fz T' a) : ∀ (w : List W) (v : List V), noRefs w = true -> Reps G T H w v -> Reps G T' H w v
  | [], v, _, h => h
  | y :: r, v, k, h => by
    unfold noRefs at k
    obtain ⟨k1, k2⟩ := Bool.and_eq_true_iff.mp k
    unfold Reps at h ⊢
    obtain ⟨u, s, e, h1, h2⟩ := h
    exact ⟨u, s, e, rep_nr hf y u k1 h1, reps_nr hf r s k2 h2⟩
end
end
theorem sub_of {n : Nat} (h : Room n X.A) : L2.Sub X n X.A := ⟨h, rfl⟩
theorem run_pure {k : Nat} {f : Addr} {mf : FM} {A : Around} {pins : List (Addr × Obj)} {σ : Sl} {H : Hp} {s : Shared} {us : List Value} {vs : List V} {T : Tie} {h : MH} {ws : List W} {w : W} {h2 : MH} {Q : Value -> Shared -> Prop}
    (C : Cal X.prog X.w X.K X.mg X.base adr.bare f k mf []) (sb : L2.Sub X k A) (I : Inv X pins σ H s) (hr : Hrel (kt X adr) T h H) (r : Vals vs us) (rp : Reps (kt X adr) T H ws vs) (nr : noRefs ws = true) (e : mf ws h0 = .ok w h2)
    (q : ∀ T' v u H' s', Inv X pins σ H' s' -> Grow H H' -> Hrel (kt X adr.bare) T' h2 H' -> Rep (kt X adr) T' H' w v -> RelV v u -> Q u s') : wpAny (model X.prog X.w) A (call (.ref f) us) Q X.xe s := by
  obtain ⟨fd, ps, ds, F, hb, hd⟩ := C.ex
  have hds : ds = [] := by
    obtain ⟨dvs, rd, rpd⟩ := hd (kt X adr.bare) T H rfl
    unfold Reps at rpd
    subst rpd
    cases rd
    rfl
  subst hds
  have rp' : Reps (kt X adr.bare) (hidAll T H) H ws vs := reps_nr (fun a _ _ _ f => hidAll_fz hr.ok f) ws vs nr (reps_sim sim_bare.1 _ _ (.inl ⟨rfl, rfl, rfl⟩) rp)
  have hsp : spM (kt X adr.bare) mf vs H (fun v H' => ∃ T', Hrel (kt X adr.bare) T' h2 H' /\ Ex (hidAll T H) T' H H' /\ Rep (kt X adr.bare) T' H' w v) (fun _ _ _ => False) := ⟨hidAll T H, ws, h0, hidAll_rel hr rfl, rp', by
    rw [e]
    exact fun T' H' v a b c => ⟨T', a, b, c⟩⟩
  have e0 : Env0 X.prog X.w X.K X.mg X.base A X.stack s H := by
    have e := I.env0
    exact ⟨by rw [sb.fr]; exact e.frames, e.mod, e.bs, e.bsz, e.funs, e.frf, e.hok, e.bare⟩
  have hl := F.len _ _ _ _ hsp
  refine wpAny_call (codeAny_mono (F.run A X.stack s H ⟨us, []⟩ us vs _ _ sb.room e0 (by
    have := hb s us I.kIn (by rw [List.append_nil, <- r.length]; exact hl)
    simpa using this) r hsp) fun r s' hq => ?_)
  cases r with
  | error e =>
    obtain ⟨a, B, H', cls, d, _, _, _, _, _, _, _, z⟩ := hq
    exact z.elim
  | ok fl =>
    cases fl with
    | ret u =>
      obtain ⟨v, H', I', rz, T', a, b, c⟩ := I.after hq
      exact q T' v u H' s' I' (hidAll_grow hr.ok b) a (rep_sim sim_bare.2 _ _ (.inl ⟨rfl, rfl, rfl⟩) c) rz
    | next => exact False.elim hq
    | brk => exact False.elim hq
    | cont => exact False.elim hq
end Mi
end
section
namespace Mi
open PySem PySem.Spec PyProof.Rows L2
variable {G : Kt} {X : Cx} {adr : Ad} {Y : WX}
def deqL (f : W -> W -> Option Bool) : List W -> List W -> Option Bool
  | x :: xs, y :: ys => match f x y with
    | some true => deqL f xs ys
    | r => r
  | [], [] => some true
  | _, _ => none
mutual
def wDiff : W -> W -> Bool
  | .int i, .int j => !decide (i = j)
  | .str a, .str b => !strEq a b
  | .tup xs, .tup ys => wDiffs xs ys
  | _, _ => false
def wDiffs : List W -> List W -> Bool
  | x :: xs, y :: ys => wDiff x y || wDiffs xs ys
  | [], [] => false
  | _, _ => true
end
def insEq (mq : Nat -> Option FM) (x y : W) : Option Bool := match x, y with
  | .ins c fn fv, .ins c' fn' fv' => match Nat.beq c c' && (noRefs fv && noRefs fv') with
    | true => match mq c with
      | some mf => match mf [x, y] h0 with
        | .ok (.bl true) _ => some true
        | .ok (.bl false) _ => (match wDiffs fv fv' with
          | true => some false
          | false => none)
        | _ => none
      | none => none
    | false => none
  | _, _ => none
def deqP (mq : Nat -> Option FM) : Nat -> W -> W -> Option Bool
  | 0, _, _ => none
  | n + 1, x, y => match weq 30 x y with
    | some b => some b
    | none => match x, y with
      | .lst xs, .lst ys => match Nat.beq xs.length ys.length with
        | false => some false
        | true => deqL (deqP mq n) xs ys
      | .tup xs, .tup ys => match Nat.beq xs.length ys.length with
        | false => none
        | true => deqL (deqP mq n) xs ys
      | .dct ks vs, .dct ks' vs' => match Nat.beq ks.length ks'.length with
        | false => some false
        | true => match wdgo ks' vs' ks vs with
          | some true => some true
          | some false => (match wDiffs ks ks' || wDiffs vs vs' with
            | true => some false
            | false => none)
          | none => none
      | .ins c fn fv, .ins c' fn' fv' => insEq mq (.ins c fn fv) (.ins c' fn' fv')
      | _, _ => none
def OwnD (K : PySem.W.Frag) (C f : Addr) (nm : Str) : Prop := PySem.W.findIn K (.ref C) nm = some (some (.ref f)) /\ PySem.W.isFn K (.ref f) = true
def Eqs (X : Cx) (adr : Ad) (k : Nat) (mq : Nat -> Option FM) : Prop := ∀ c mf, mq c = some mf -> ∃ f, Cal X.prog X.w X.K X.mg X.base adr.bare f k mf [] /\ OwnD X.K (adr c) f "__eq__"
section
variable {H : Hp} {h : Heap} {P : Program} {w : World}
theorem deqL_same {f : W -> W -> Option Bool} {T : Tie} {vs : List V} (ih : ∀ x y b v, (∃ u, RelV v u) -> f x y = some b -> Rep G T H x v -> Rep G T H y v -> b = true) : ∀ {xs ys : List W} {vs : List V} {us : List Value} {b : Bool}, Vals vs us -> deqL f xs ys = some b -> Reps G T H xs vs -> Reps G T H ys vs -> b = true
  | [], [], _, _, b, _, e, _, _ => by cases e; rfl
  | [], _ :: _, _, _, b, _, e, _, _ => by cases e
  | _ :: _, [], _, _, b, _, e, _, _ => by cases e
  | x :: xs, y :: ys, vs, us, b, rv, e, r1, r2 => by
    unfold Reps at r1 r2
    obtain ⟨u, s, rfl, p1, q1⟩ := r1
    obtain ⟨u2, s2, e2, p2, q2⟩ := r2
    cases e2
    cases rv with
    | cons r0 rv =>
      unfold deqL at e
      cases ef : f x y with
      | none => rw [ef] at e; cases e
      | some k =>
        rw [ef] at e
        have kt := ih _ _ _ _ ⟨_, r0⟩ ef p1 p2
        subst kt
        exact deqL_same (vs := vs) ih rv e q1 q2
mutual
theorem wDiff_same {T : Tie} : ∀ (x y : W) (v : V), Rep G T H x v -> Rep G T H y v -> wDiff x y = false
  | .int i, .int j, v, r1, r2 => by unfold Rep at r1 r2; subst r1; cases r2; unfold wDiff; simp
  | .str i, .str j, v, r1, r2 => by unfold Rep at r1 r2; subst r1; cases r2; unfold wDiff; simp [strEq_eq]
  | .tup xs, .tup ys, v, r1, r2 => by
    unfold Rep at r1 r2
    obtain ⟨a, vs, rfl, _, q, p1⟩ := r1
    obtain ⟨a2, vs2, e2, _, q2, p2⟩ := r2
    cases e2
    rw [q] at q2
    cases q2
    unfold wDiff
    exact wDiffs_same xs ys vs p1 p2
  | .int _, .non, _, _, _ | .int _, .bl _, _, _, _ | .int _, .str _, _, _, _ | .int _, .tup _, _, _, _ | .int _, .lst _, _, _, _ | .int _, .dct _ _, _, _, _ | .int _, .ins _ _ _, _, _, _ | .int _, .ref _, _, _, _ | .int _, .dvs _ _, _, _, _ | .int _, .ty _, _, _, _ | .int _, .cl _, _, _, _ | .int _, .scr _, _, _, _ | .int _, .kt0, _, _, _ | .int _, .lamO _, _, _, _ | .int _, .lam _ _, _, _, _ | .int _, .exn _ _, _, _, _ => rfl
  | .str _, .non, _, _, _ | .str _, .bl _, _, _, _ | .str _, .int _, _, _, _ | .str _, .tup _, _, _, _ | .str _, .lst _, _, _, _ | .str _, .dct _ _, _, _, _ | .str _, .ins _ _ _, _, _, _ | .str _, .ref _, _, _, _ | .str _, .dvs _ _, _, _, _ | .str _, .ty _, _, _, _ | .str _, .cl _, _, _, _ | .str _, .scr _, _, _, _ | .str _, .kt0, _, _, _ | .str _, .lamO _, _, _, _ | .str _, .lam _ _, _, _, _ | .str _, .exn _ _, _, _, _ => rfl
  | .tup _, .non, _, _, _ | .tup _, .bl _, _, _, _ | .tup _, .int _, _, _, _ | .tup _, .str _, _, _, _ | .tup _, .lst _, _, _, _ | .tup _, .dct _ _, _, _, _ | .tup _, .ins _ _ _, _, _, _ | .tup _, .ref _, _, _, _ | .tup _, .dvs _ _, _, _, _ | .tup _, .ty _, _, _, _ | .tup _, .cl _, _, _, _ | .tup _, .scr _, _, _, _ | .tup _, .kt0, _, _, _ | .tup _, .lamO _, _, _, _ | .tup _, .lam _ _, _, _, _ | .tup _, .exn _ _, _, _, _ => rfl
  | .non, _, _, _, _ | .bl _, _, _, _, _ | .lst _, _, _, _, _ | .dct _ _, _, _, _, _ | .ins _ _ _, _, _, _, _ | .ref _, _, _, _, _ | .dvs _ _, _, _, _, _ | .ty _, _, _, _, _ | .cl _, _, _, _, _ | .scr _, _, _, _, _ | .kt0, _, _, _, _ | .lamO _, _, _, _, _ | .lam _ _, _, _, _, _ | .exn _ _, _, _, _, _ => rfl
theorem wDiffs_same {T : Tie} : ∀ (xs ys : List W) (vs : List V), Reps G T H xs vs -> Reps G T H ys vs -> wDiffs xs ys = false
  | [], [], _, _, _ => rfl
  | [], _ :: _, vs, r1, r2 => by
    unfold Reps at r1 r2
    subst r1
    obtain ⟨_, _, e, _⟩ := r2
    cases e
  | _ :: _, [], vs, r1, r2 => by
    unfold Reps at r1 r2
    subst r2
    obtain ⟨_, _, e, _⟩ := r1
    cases e
  | x :: xs, y :: ys, vs, r1, r2 => by
    unfold Reps at r1 r2
    obtain ⟨u, s, rfl, p1, q1⟩ := r1
    obtain ⟨u2, s2, e2, p2, q2⟩ := r2
    cases e2
    unfold wDiffs
    rw [wDiff_same x y u p1 p2, wDiffs_same xs ys s q1 q2]
    rfl
end
theorem zip_inj {α β : Type} : ∀ {a a' : List α} {b b' : List β}, a.length = b.length -> a'.length = b'.length -> a.zip b = a'.zip b' -> a = a' /\ b = b'
  | [], [], [], [], _, _, _ => ⟨rfl, rfl⟩
  | [], _ :: _, [], _ :: _, _, _, h => by simp at h
  | _ :: _, [], _ :: _, [], _, _, h => by simp at h
  | x :: a, y :: a', u :: b, v :: b', h1, h2, h => by
    simp only [List.zip_cons_cons, List.cons.injEq, Prod.mk.injEq] at h
    obtain ⟨⟨rfl, rfl⟩, h⟩ := h
    obtain ⟨rfl, rfl⟩ := zip_inj (by simpa using h1) (by simpa using h2) h
    exact ⟨rfl, rfl⟩
  | [], [], _ :: _, _, h, _, _ => by simp at h
  | [], [], [], _ :: _, _, h, _ => by simp at h
  | [], _ :: _, _ :: _, _, h, _, _ => by simp at h
  | [], _ :: _, [], [], _, h, _ => by simp at h
  | _ :: _, [], [], _, h, _, _ => by simp at h
  | _ :: _, [], _ :: _, _ :: _, _, h, _ => by simp at h
  | _ :: _, _ :: _, [], _, h, _, _ => by simp at h
  | _ :: _, _ :: _, _ :: _, [], _, h, _ => by simp at h
theorem ents_inj : ∀ {es : List DictEntry} {k1 v1 k2 v2 : List V} {i1 i2 : List Int}, Ents es k1 v1 i1 -> Ents es k2 v2 i2 -> k1 = k2 /\ v1 = v2
  | _, _, _, _, _, _, _, .nil, .nil => ⟨rfl, rfl⟩
  | _, _, _, _, _, _, _, .cons a b _ r, .cons a2 b2 _ r2 => by
    obtain ⟨rfl, rfl⟩ := ents_inj r r2
    rw [a.inj a2, b.inj b2]
    exact ⟨rfl, rfl⟩
theorem deqP_same (ok : HOk P w H h) {mq : Nat -> Option FM} : ∀ (n : Nat) {T : Tie} (x y : W) (b : Bool) (v : V), (∃ u, RelV v u) -> deqP mq n x y = some b -> Rep G T H x v -> Rep G T H y v -> b = true
  | 0, _, _, _, _, _, _, e, _, _ => by cases e
  | n + 1, T, x, y, b, v, ru, e, r1, r2 => by
    unfold deqP at e
    cases ew : weq 30 x y with
    | some b' =>
      rw [ew] at e
      cases e
      exact weq_same ok 30 x y b v ru ew r1 r2
    | none =>
      rw [ew] at e
      dsimp only at e
      split at e
      · rename_i xs ys
        unfold Rep at r1 r2
        obtain ⟨a, vs, rfl, _, q, p1⟩ := r1
        obtain ⟨a2, vs2, e2, _, q2, p2⟩ := r2
        cases e2
        rw [q] at q2
        cases q2
        obtain ⟨_, its, _, rv, _⟩ := ok _ _ q
        rw [p1.length.trans p2.length.symm, Nat.beq_refl] at e
        exact deqL_same (vs := vs) (fun x y b v => deqP_same ok n x y b v) rv e p1 p2
      · rename_i xs ys
        unfold Rep at r1 r2
        obtain ⟨a, vs, rfl, _, q, p1⟩ := r1
        obtain ⟨a2, vs2, e2, _, q2, p2⟩ := r2
        cases e2
        rw [q] at q2
        cases q2
        obtain ⟨_, its, rv, _⟩ := ok _ _ q
        rw [p1.length.trans p2.length.symm, Nat.beq_refl] at e
        exact deqL_same (vs := vs) (fun x y b v => deqP_same ok n x y b v) rv e p1 p2
      · rename_i ks vs ks' vs'
        unfold Rep at r1 r2
        obtain ⟨a, o, kv, vv, rfl, f1, sm, ko, q, d, p1, p3⟩ := r1
        obtain ⟨a2, o2, kv2, vv2, e2, f2, sm2, ko2, q2, d2, p2, p4⟩ := r2
        cases e2
        have eo := exact_inj ok q q2
        subst eo
        obtain ⟨_, es, ep, ed, en⟩ := d
        obtain ⟨_, es2, ep2, ed2, en2⟩ := d2
        rw [ed] at ed2
        injection ed2 with e1 e2
        subst e1
        obtain ⟨rfl, rfl⟩ := ents_inj en en2
        have n1 := wDiffs_same ks ks' kv p1 p2
        have n2 := wDiffs_same vs vs' vv p3 p4
        rw [p1.length.trans p2.length.symm, Nat.beq_refl] at e
        dsimp only at e
        split at e
        · cases e; rfl
        · rw [n1, n2] at e; cases e
        · cases e
      · rename_i c fn fv c' fn' fv'
        unfold insEq at e
        unfold Rep at r1 r2
        obtain ⟨a, dx, vv, rfl, _, _, q, _, l, p1⟩ := r1
        obtain ⟨a2, dx2, vv2, e2, _, _, q2, _, l2, p2⟩ := r2
        cases e2
        rw [q] at q2
        have hz : fn.zip vv = fn'.zip vv2 := by
          have := Option.some.inj q2
          injection this
        obtain ⟨_, rfl⟩ := zip_inj l l2 hz
        have nd := wDiffs_same fv fv' vv p1 p2
        dsimp only at e
        split at e
        · split at e
          · split at e
            · cases e; rfl
            · rw [nd] at e; cases e
            · cases e
          · cases e
        · cases e
      · cases e
end
section
variable {mq : Nat -> Option FM} {k : Nat}
abbrev Kept (X : Cx) (pins : List (Addr × Obj)) (σ : Sl) (H : Hp) (s' : Shared) : Prop := ∃ H', Inv X pins σ H' s' /\ Grow H H'
def EqsAt (X : Cx) (adr : Ad) (A : Around) (x y : W) (b : Bool) : Prop := ∀ (pins : List (Addr × Obj)) (s : Shared) (σ : Sl) (T : Tie) (h : MH) (H : Hp) (vx vy : V) (u v : Value), Inv X pins σ H s -> Hrel (kt X adr) T h H -> Rep (kt X adr) T H x vx -> Rep (kt X adr) T H y vy -> RelV vx u -> RelV vy v ->
  wpAny (model X.prog X.w) A (richCompare .Eq u v) (fun r s' => r = .bool b /\ Kept X pins σ H s') X.xe s
theorem eqB_of {A : Around} {n : Nat} {x y : W} {b : Bool} (e : deqP mq n x y = some b) (R : EqsAt X adr A x y b) {pins : List (Addr × Obj)} {s : Shared} {σ : Sl} {T : Tie} {h : MH} {H : Hp} {vx vy : V} {u v : Value} (I : Inv X pins σ H s) (hr : Hrel (kt X adr) T h H) (r1 : Rep (kt X adr) T H x vx) (r2 : Rep (kt X adr) T H y vy) (ru : RelV vx u) (rv : RelV vy v)
    (hu : A.units + 40 < cLine) : wpAny (model X.prog X.w) A (eqBool u v) (fun r s' => r = b /\ Kept X pins σ H s') X.xe s := by
  cases ew : weq 30 x y with
  | some b' =>
    have : b' = b := by
      cases n with
      | zero => cases e
      | succ n => unfold deqP at e; rw [ew] at e; cases e; rfl
    subst this
    exact (weq_at (G := kt X adr) 30 I.hok (by omega) ew r1 r2 ru rv).2.2 _ _ _ _ ⟨rfl, H, I, fun _ _ e => e⟩
  | none =>
    have refs : (∃ a, vx = .ref a) /\ (∃ a, vy = .ref a) := by
      cases n with
      | zero => cases e
      | succ n =>
        unfold deqP at e
        rw [ew] at e
        dsimp only at e
        split at e
        · unfold Rep at r1 r2; obtain ⟨a, _, e1, _⟩ := r1; obtain ⟨a2, _, e2, _⟩ := r2; exact ⟨⟨a, e1⟩, ⟨a2, e2⟩⟩
        · unfold Rep at r1 r2; obtain ⟨a, _, e1, _⟩ := r1; obtain ⟨a2, _, e2, _⟩ := r2; exact ⟨⟨a, e1⟩, ⟨a2, e2⟩⟩
        · unfold Rep at r1 r2; obtain ⟨a, _, _, _, e1, _⟩ := r1; obtain ⟨a2, _, _, _, e2, _⟩ := r2; exact ⟨⟨a, e1⟩, ⟨a2, e2⟩⟩
        · unfold Rep at r1 r2; obtain ⟨a, _, _, e1, _⟩ := r1; obtain ⟨a2, _, _, e2, _⟩ := r2; exact ⟨⟨a, e1⟩, ⟨a2, e2⟩⟩
        · cases e
    obtain ⟨⟨a, rfl⟩, ⟨a2, rfl⟩⟩ := refs
    obtain rfl : u = .ref a := ru
    obtain rfl : v = .ref a2 := rv
    by_cases hab : a = a2
    · subst hab
      have bt := deqP_same I.hok n x y b (.ref a) ⟨_, rfl⟩ e r1 r2
      subst bt
      exact SeqAt.EqAt.same (A := A) (s := s) (.ref a) X.prog X.w X.xe _ ⟨rfl, H, I, fun _ _ e => e⟩
    · refine GQ.eqBool_refG hab (wpAny_mono (R pins s σ T h H _ _ _ _ I hr r1 r2 rfl rfl) (fun r s' q => ?_) fun _ _ x => x)
      obtain ⟨hr', q⟩ := q
      exact ⟨b, hr', rfl, q⟩
abbrev TurnI (X : Cx) (pins : List (Addr × Obj)) (σ : Sl) (H : Hp) (f : W -> W -> Option Bool) (xs ys : List W) (b : Bool) (i : Nat) (s' : Shared) : Prop := Kept X pins σ H s' /\ i <= xs.length /\ deqL f (xs.drop i) (ys.drop i) = some b
theorem turnB {A : Around} {n : Nat} (R : ∀ x y b, deqP mq n x y = some b -> EqsAt X adr A x y b) (hu : A.units + 40 < cLine) {pins : List (Addr × Obj)} {σ : Sl} {T : Tie} {h : MH} {H : Hp} (hr : Hrel (kt X adr) T h H) {xs ys : List W} {vx vy : List V} {its its2 : List Value} {b : Bool}
    (r1 : Reps (kt X adr) T H xs vx) (r2 : Reps (kt X adr) T H ys vy) (q1 : Vals vx its) (q2 : Vals vy its2) (i : Nat) (h1 : i < its.toArray.size) (h2 : i < its2.toArray.size) (s' : Shared) (l : TurnI X pins σ H (deqP mq n) xs ys b i s') :
    wpAny (model X.prog X.w) A (eqBool its.toArray[i] its2.toArray[i]) (fun r s2 => (r = true /\ TurnI X pins σ H (deqP mq n) xs ys b (i + 1) s2) \/ (r = false /\ b = false /\ Kept X pins σ H s2)) X.xe s' := by
  obtain ⟨⟨H1, I1, e1⟩, le, el⟩ := l
  have z1 : its.length = xs.length := by rw [<- q1.length, <- r1.length]
  have z2 : its2.length = ys.length := by rw [<- q2.length, <- r2.length]
  have l1 : i < xs.length := by simpa [z1] using h1
  have l2 : i < ys.length := by simpa [z2] using h2
  have ex : xs[i]? = some xs[i] := List.getElem?_eq_getElem l1
  have ey : ys[i]? = some ys[i] := List.getElem?_eq_getElem l2
  obtain ⟨v1, f1, p1⟩ := r1.get ex
  obtain ⟨v2, f2, p2⟩ := r2.get ey
  obtain ⟨u1, g1, t1⟩ := q1.get f1
  obtain ⟨u2, g2, t2⟩ := q2.get f2
  have c1 : its.toArray[i] = u1 := by
    have h1' : i < its.length := by simpa using h1
    have := List.getElem?_eq_getElem h1'
    rw [g1] at this
    simpa using this.symm
  have c2 : its2.toArray[i] = u2 := by
    have h2' : i < its2.length := by simpa using h2
    have := List.getElem?_eq_getElem h2'
    rw [g2] at this
    simpa using this.symm
  rw [c1, c2]
  rw [List.drop_eq_getElem_cons l1, List.drop_eq_getElem_cons l2] at el
  unfold deqL at el
  have x1 := Ex.grow hr.ok e1
  cases ef : deqP mq n xs[i] ys[i] with
  | none => rw [ef] at el; cases el
  | some r =>
    rw [ef] at el
    refine wpAny_mono (eqB_of ef (R _ _ _ ef) I1 (hr.grow e1) (rep_ex x1 _ _ p1) (rep_ex x1 _ _ p2) t1 t2 hu) (fun r' s2 q => ?_) fun _ _ x => x
    obtain ⟨rfl, H2, I2, e2⟩ := q
    have g12 : Grow H H2 := fun a o e => e2 a o (e1 a o e)
    cases r' with
    | true => exact .inl ⟨rfl, ⟨H2, I2, g12⟩, l1, el⟩
    | false =>
      have : b = false := (Option.some.inj el).symm
      exact .inr ⟨rfl, this, H2, I2, g12⟩
theorem units_room {n : Nat} {A : Around} (r : Room n A) : A.units + 100 < cLine := by have := r.un; omega
theorem ins_at (hq : Eqs X adr k mq) {A : Around} {c c' : Nat} {fn fn' : List Str} {fv fv' : List W} {b : Bool} (e : insEq mq (.ins c fn fv) (.ins c' fn' fv') = some b) (sb : L2.Sub X k A) : EqsAt X adr A (.ins c fn fv) (.ins c' fn' fv') b := by
  intro pins s σ T h H vx vy u v I hr r1 r2 ru rv
  unfold insEq at e
  dsimp only at e
  split at e
  · rename_i hb
    obtain ⟨hc, hn⟩ := Bool.and_eq_true_iff.mp hb
    obtain ⟨n1, n2⟩ := Bool.and_eq_true_iff.mp hn
    obtain rfl := Nat.eq_of_beq_eq_true hc
    split at e
    · rename_i mf em
      obtain ⟨f, C, hs, hf⟩ := hq c mf em
      have eh : ∃ h2, mf [.ins c fn fv, .ins c fn' fv'] h0 = .ok (.bl b) h2 := by
        split at e
        · rename_i e1; cases e; exact ⟨_, e1⟩
        · rename_i e1
          split at e
          · cases e; exact ⟨_, e1⟩
          · cases e
        · cases e
      obtain ⟨h2, eh⟩ := eh
      have s1 := r1
      have s2 := r2
      unfold Rep at s1 s2
      obtain ⟨a, dx, vv, rfl, _, _, q, _, l, p1⟩ := s1
      obtain ⟨a2, dx2, vv2, rfl, _, _, q2, _, l2, p2⟩ := s2
      obtain rfl : u = .ref a := ru
      obtain rfl : v = .ref a2 := rv
      obtain ⟨mA, J, _⟩ := ins_get I.hok q
      obtain ⟨mB, J', _⟩ := ins_get I.hok q2
      obtain ⟨od, J, _⟩ := J.look
      obtain ⟨od', J', _⟩ := J'.look
      obtain ⟨m, hF⟩ := I.fr
      refine PySem.W.cmp_K (op := .Eq) (tb := .ref (adr c)) sb.room.units0 hF I.ok.mod.kin J J'.type (by simp [PySem.W.notFirst]) hs hf ?_
      refine run_pure (vs := [.ref a, .ref a2]) C sb I hr (.cons rfl (.cons rfl .nil)) (Reps.cons r1 (Reps.cons r2 Reps.nil)) (by show (noRefs fv && (noRefs fv' && true)) = true; rw [n1, n2]; rfl) eh fun T' v' u' H' s' I' g _ rp rr => ?_
      have ev := rep_bl rp
      subst ev
      cases rr
      exact ⟨rfl, H', I', g⟩
    · cases e
  · cases e
theorem deqP_at (hq : Eqs X adr k mq) : ∀ (n : Nat) {A : Around} (x y : W) (b : Bool), deqP mq n x y = some b -> L2.Sub X (n + k) A -> EqsAt X adr A x y b
  | 0, _, _, _, _, e, _ => by cases e
  | n + 1, A, x, y, b, e, sb => by
    have sb1 : L2.Sub X (n + k) A.in1 := by
      have : n + 1 + k = (n + k) + 1 := by omega
      rw [this] at sb
      exact sb.in1
    have hu := units_room sb.room
    have hu1 := units_room sb1.room
    have R : ∀ x y b, deqP mq n x y = some b -> EqsAt X adr A.in1 x y b := fun x y b e => deqP_at hq n x y b e sb1
    intro pins s σ T h H vx vy u v I hr r1 r2 ru rv
    unfold deqP at e
    cases ew : weq 30 x y with
    | some b' =>
      rw [ew] at e
      cases e
      exact (weq_at (G := kt X adr) 30 I.hok (by omega) ew r1 r2 ru rv).1 _ _ _ _ ⟨rfl, H, I, fun _ _ e => e⟩
    | none =>
      rw [ew] at e
      dsimp only at e
      split at e
      · rename_i xs ys
        unfold Rep at r1 r2
        obtain ⟨a, vs, rfl, _, q, p1⟩ := r1
        obtain ⟨a2, vs2, rfl, _, q2, p2⟩ := r2
        obtain rfl : u = .ref a := ru
        obtain rfl : v = .ref a2 := rv
        obtain ⟨_, its0, _, rv1, _⟩ := I.hok a _ q
        obtain ⟨_, its20, _, rv2, _⟩ := I.hok a2 _ q2
        have lists : ∀ s', Kept X pins σ H s' -> ∃ its its2 : List Value, Vals vs its /\ Vals vs2 its2 /\ LstAt s' a xs.length its.toArray /\ LstAt s' a2 ys.length its2.toArray := fun s' ⟨H1, I1, e1⟩ => by
          obtain ⟨_, its, n1, w1, g1⟩ := I1.hok a _ (e1 a _ q)
          obtain ⟨_, its2, n2, w2, g2⟩ := I1.hok a2 _ (e1 a2 _ q2)
          exact ⟨its, its2, w1, w2, ⟨n1, g1, by rw [List.size_toArray, <- w1.length, <- p1.length]⟩, ⟨n2, g2, by rw [List.size_toArray, <- w2.length, <- p2.length]⟩⟩
        split at e
        · rename_i nb
          cases e
          have ne : xs.length ≠ ys.length := fun z => by rw [z, Nat.beq_refl] at nb; cases nb
          refine rc_listB (N := xs.length) (N2 := ys.length) (by omega) (fun i s' => i = 0 /\ Kept X pins σ H s') (fun _ => False) (fun i s' q => ?_) (fun s' q => q.elim) (fun s' z _ => absurd z ne) ⟨rfl, H, I, fun _ _ e => e⟩ fun _ => ⟨rfl, H, I, fun _ _ e => e⟩
          obtain ⟨its, its2, w1, w2, L1, L2⟩ := lists s' q.2
          exact ⟨_, _, L1, L2, fun z => absurd z ne⟩
        · rename_i nb
          have leq := Nat.eq_of_beq_eq_true nb
          refine rc_listB (N := xs.length) (N2 := ys.length) (by omega) (fun i s' => TurnI X pins σ H (deqP mq n) xs ys b i s') (fun s' => b = false /\ Kept X pins σ H s') (fun i s' q => ?_) (fun s' q => ?_) (fun s' _ q => ?_) ⟨⟨H, I, fun _ _ e => e⟩, Nat.zero_le _, e⟩ fun z => absurd leq z
          · obtain ⟨its, its2, w1, w2, L1, L2⟩ := lists s' q.1
            exact ⟨_, _, L1, L2, fun _ h1 h2 => turnB R (by omega) hr p1 p2 w1 w2 i h1 h2 s' q⟩
          · obtain ⟨its, its2, w1, w2, L1, L2⟩ := lists s' q.2
            exact ⟨⟨_, L1⟩, ⟨_, L2⟩, by rw [q.1], q.2⟩
          · obtain ⟨kp, _, el⟩ := q
            rw [List.drop_of_length_le (Nat.le_refl _), List.drop_of_length_le (by omega)] at el
            cases el
            exact ⟨rfl, kp⟩
      · rename_i xs ys
        split at e
        · cases e
        · rename_i nb
          have leq := Nat.eq_of_beq_eq_true nb
          unfold Rep at r1 r2
          obtain ⟨a, vs, rfl, _, q, p1⟩ := r1
          obtain ⟨a2, vs2, rfl, _, q2, p2⟩ := r2
          obtain rfl : u = .ref a := ru
          obtain rfl : v = .ref a2 := rv
          obtain ⟨_, its, w1, t1⟩ := I.hok a _ q
          obtain ⟨_, its2, w2, t2⟩ := I.hok a2 _ q2
          have s1 : its.toArray.size = xs.length := by rw [List.size_toArray, <- w1.length, <- p1.length]
          have s2 : its2.toArray.size = ys.length := by rw [List.size_toArray, <- w2.length, <- p2.length]
          refine rc_tupB (by rw [s1, s2, leq]) (by omega) (fun i s' => TurnI X pins σ H (deqP mq n) xs ys b i s') (fun s' => b = false /\ Kept X pins σ H s') t1 t2 (fun i h1 h2 s' q => turnB R (by omega) hr p1 p2 w1 w2 i h1 h2 s' q) (fun s' q => ⟨by rw [q.1], q.2⟩) (fun s' q => ?_) ⟨⟨H, I, fun _ _ e => e⟩, Nat.zero_le _, e⟩
          obtain ⟨kp, _, el⟩ := q
          rw [s1, List.drop_of_length_le (Nat.le_refl _), List.drop_of_length_le (by omega)] at el
          cases el
          exact ⟨rfl, kp⟩
      · rename_i ks vs ks' vs'
        obtain ⟨a, o, kv, vv, rfl, D⟩ := dct_at hr r1 (show dctOf (.dct ks vs) h = some (ks, vs) from rfl)
        obtain ⟨a2, o', kv', vv', rfl, D'⟩ := dct_at hr r2 (show dctOf (.dct ks' vs') h = some (ks', vs') from rfl)
        obtain rfl : u = .ref a := ru
        obtain rfl : v = .ref a2 := rv
        have ea := exact_at I.hok D.at_
        have eb := exact_at I.hok D'.at_
        obtain ⟨es, ep, ed, en, dr⟩ := D.d.raw ea
        obtain ⟨es', ep', ed', en', dr'⟩ := D'.d.raw eb
        have l1 : es.size = ks.length := by
          have z1 := en.len.1
          have z2 := D.rk.length
          simp at z1; omega
        have l2 : es'.size = ks'.length := by
          have z1 := en'.len.1
          have z2 := D'.rk.length
          simp at z1; omega
        show wpAny _ A (compareOp (if false = true then .NotEq else .Eq) (.ref a) (.ref a2)) _ _ _
        split at e
        · rename_i nb
          cases e
          have ne : es.size ≠ es'.size := fun z => by
            rw [l1, l2] at z
            rw [z, Nat.beq_refl] at nb
            cases nb
          refine dict_cmp (r := fun _ => false) false D.sm D'.sm D.d.1 D'.d.1 ea ed eb ed' (by omega) (fun z => absurd z ne) ?_
          have e0 : (es.size == es'.size) = false := by simpa using ne
          rw [e0, Bool.false_and, Bool.xor_false]
          exact ⟨rfl, H, I, fun _ _ e => e⟩
        · rename_i nb
          have leq : ks.length = ks'.length := Nat.eq_of_beq_eq_true nb
          obtain ⟨r, er, rb⟩ : ∃ r, wdgo ks' vs' ks vs = some r /\ r = b := by
            split at e
            · rename_i er
              cases e
              exact ⟨_, er, rfl⟩
            · rename_i er
              split at e
              · cases e
                exact ⟨_, er, rfl⟩
              · cases e
            · cases e
          subst rb
          obtain ⟨f, h1, h2⟩ := wdgo_at er
          refine dict_cmp (r := f) false D.sm D'.sm D.d.1 D'.d.1 ea ed eb ed' (by omega) (fun z i e ei => ?_) ?_
          · have ei' : es.toList[i]? = some e := by simpa using ei
            obtain ⟨k1, v1, g1, g2, q1, q2⟩ := en.get ei'
            have hh := en.hashAt ei'
            obtain ⟨kw, f1, p1⟩ := D.rk.getL g1
            obtain ⟨vw, f2, p2⟩ := D.rv.getL g2
            have eh : e.hash = hashW X.w kw := by
              rw [List.getElem?_map, f1] at hh
              exact (Option.some.inj hh).symm
            obtain ⟨fit, c⟩ := h1 i kw vw f1 f2
            obtain ⟨F1, F2⟩ := find_in (A := A.in1) (P := X.prog) (wo := X.w) rfl rfl I.hok (by show A.units + 1 + 8 < cLine; omega) D' ed' fit p1 q1
            rw [<- eh] at F1 F2
            rcases c with ⟨c1, c2⟩ | ⟨y, c1, c2⟩
            · exact .inl ⟨F1 c1, c2⟩
            · obtain ⟨j, f', ej, run, v', s1, s2⟩ := F2 y c1
              exact .inr ⟨j, f', ej, run, (weq_at (G := kt X adr) 29 I.hok (by show A.units + 1 + 29 < cLine; omega) c2 p2 s2 q2 s1).2.2⟩
          · have e0 : (es.size == es'.size) = true := by simp; omega
            rw [e0, Bool.true_and, l1, h2]
            exact ⟨by simp, H, I, fun _ _ e => e⟩
      · rename_i c fn fv c' fn' fv'
        exact ins_at hq e (sb.mono (by omega)) _ _ _ _ _ _ _ _ _ _ I hr r1 r2 ru rv
      · cases e
end
end Mi
end
section
namespace Mi
open PySem PySem.Spec PyProof.Rows L2
variable {G : Kt} {X : Cx} {adr : Ad} {Y : WX}
def pureW (mf : FM) (ws : List W) : Option W := match noRefs ws with
  | true => match mf ws h0 with
    | .ok w _ => (match noRef w with
      | true => some w
      | false => none)
    | _ => none
  | false => none
theorem pureW_is {mf : FM} {ws : List W} {w : W} (e : pureW mf ws = some w) : noRefs ws = true /\ noRef w = true /\ ∃ h2, mf ws h0 = .ok w h2 := by
  unfold pureW at e
  split at e
  · rename_i n
    split at e
    · rename_i w' h2 em
      split at e
      · rename_i n2
        cases e
        exact ⟨n, n2, _, em⟩
      · cases e
    · cases e
  · cases e
def Owns (X : Cx) (adr : Ad) (k : Nat) (nm : Str) (mq : Nat -> Option FM) : Prop := ∀ c mf, mq c = some mf -> ∃ f, Cal X.prog X.w X.K X.mg X.base adr.bare f k mf [] /\ OwnD X.K (adr c) f nm
theorem hidAll_fzb {T T' : Tie} {H H' : Hp} (ok : T.Ok H) (x : Ex (hidAll T H) T' H H') {a : Addr} {o : HO} (q : H' a = some o) (n : ∀ ps, o ≠ .tbl ps) (f : Fz T' a) : Fz T a := by
  have nt : ntB H a = true := by
    cases b : ntB H a with
    | true => rfl
    | false =>
      obtain ⟨ps, e⟩ := ntB_not b
      have z := hidAll_grow ok x a _ e
      rw [q] at z
      exact absurd (Option.some.inj z) (n ps)
  exact ⟨fun n e => f.hid (x.hid a ((hidAll_mem ok).mpr ⟨.inl ⟨n, e⟩, nt⟩)), fun h => f.hid (x.hid a ((hidAll_mem ok).mpr ⟨.inr h, nt⟩))⟩
section
variable {k : Nat} {f : Addr} {mf : FM} {A : Around} {pins : List (Addr × Obj)} {σ : Sl} {H : Hp} {s : Shared} {us : List Value} {vs : List V} {T : Tie} {h : MH} {ws : List W} {w : W} {Q : Value -> Shared -> Prop}
theorem run_pureW (C : Cal X.prog X.w X.K X.mg X.base adr.bare f k mf []) (sb : L2.Sub X k A) (I : Inv X pins σ H s) (hr : Hrel (kt X adr) T h H) (r : Vals vs us) (rp : Reps (kt X adr) T H ws vs) (e : pureW mf ws = some w)
    (q : ∀ v u H' s', Inv X pins σ H' s' -> Grow H H' -> Hrel (kt X adr) T h H' -> Rep (kt X adr) T H' w v -> RelV v u -> Q u s') : wpAny (model X.prog X.w) A (call (.ref f) us) Q X.xe s := by
  obtain ⟨nr, nw, h2, e⟩ := pureW_is e
  obtain ⟨fd, ps, ds, F, hb, hd⟩ := C.ex
  have hds : ds = [] := by
    obtain ⟨dvs, rd, rpd⟩ := hd (kt X adr.bare) T H rfl
    unfold Reps at rpd
    subst rpd
    cases rd
    rfl
  subst hds
  have rp' : Reps (kt X adr.bare) (hidAll T H) H ws vs := reps_nr (fun a _ _ _ f => hidAll_fz hr.ok f) ws vs nr (reps_sim sim_bare.1 _ _ (.inl ⟨rfl, rfl, rfl⟩) rp)
  have hsp : spM (kt X adr.bare) mf vs H (fun v H' => ∃ T', Hrel (kt X adr.bare) T' h2 H' /\ Ex (hidAll T H) T' H H' /\ Rep (kt X adr.bare) T' H' w v) (fun _ _ _ => False) := ⟨hidAll T H, ws, h0, hidAll_rel hr rfl, rp', by
    rw [e]
    exact fun T' H' v a b c => ⟨T', a, b, c⟩⟩
  have e0 : Env0 X.prog X.w X.K X.mg X.base A X.stack s H := by
    have e := I.env0
    exact ⟨by rw [sb.fr]; exact e.frames, e.mod, e.bs, e.bsz, e.funs, e.frf, e.hok, e.bare⟩
  have hl := F.len _ _ _ _ hsp
  refine wpAny_call (codeAny_mono (F.run A X.stack s H ⟨us, []⟩ us vs _ _ sb.room e0 (by
    have := hb s us I.kIn (by rw [List.append_nil, <- r.length]; exact hl)
    simpa using this) r hsp) fun r s' hq => ?_)
  cases r with
  | error e =>
    obtain ⟨a, B, H', cls, d, _, _, _, _, _, _, _, z⟩ := hq
    exact z.elim
  | ok fl =>
    cases fl with
    | ret u =>
      obtain ⟨v, H', I', rz, T', a, b, c⟩ := I.after hq
      have g := hidAll_grow hr.ok b
      exact q v u H' s' I' g (hr.grow g) (rep_nr (fun a _ q n f => hidAll_fzb hr.ok b q n f) w v nw (rep_sim sim_bare.2 _ _ (.inl ⟨rfl, rfl, rfl⟩) c)) rz
    | next => exact False.elim hq
    | brk => exact False.elim hq
    | cont => exact False.elim hq
end
theorem ins_look {T : Tie} {H : Hp} {s : Shared} {pins : List (Addr × Obj)} {σ : Sl} {c : Nat} {fn : List Str} {fv : List W} {v : V} {u : Value} (I : Inv X pins σ H s) (r : Rep (kt X adr) T H (.ins c fn fv) v) (ru : RelV v u) :
    ∃ a ox od, v = .ref a /\ u = .ref a /\ PySem.W.InstAt s.heap a ox (adr c) od := by
  unfold Rep at r
  obtain ⟨a, dx, vv, rfl, _, _, q, _, l, p⟩ := r
  obtain rfl : u = .ref a := ru
  obtain ⟨m, J, _⟩ := ins_get I.hok q
  obtain ⟨od, J, _⟩ := J.look
  exact ⟨a, _, od, rfl, rfl, J⟩
section
variable {k : Nat} {mq : Nat -> Option FM}
def wEqO (mq : Nat -> Option FM) : F2 := fun a b h => match a, b with
  | .ins c fn fv, .ins c' fn' fv' => match Nat.beq c c' with
    | true => match mq c with
      | some mf => (match pureW mf [.ins c fn fv, .ins c' fn' fv'] with
        | some (.bl r) => some (.bl r)
        | _ => none)
      | none => none
    | false => none
  | a, b => match wCmpB false a b h with
    | some w => some w
    | none => match deqP mq 6 a b with
      | some r => some (.bl r)
      | none => none
theorem mo_eqO (hq : Owns X adr k "__eq__" mq) (hr : Room (k + 7) X.A) (hu : X.A.units + 64 < cLine) : MO X adr (compareOp .Eq) (wEqO mq) := by
  intro pins s σ H x y v u Q I rx ry ⟨T, h, w1, w2, w, hrel, r1, r2, e, q⟩
  unfold wEqO at e
  split at e
  · rename_i c fn fv c' fn' fv'
    split at e
    · rename_i hc
      obtain rfl := Nat.eq_of_beq_eq_true hc
      split at e
      · rename_i mf em
        split at e
        · rename_i r er
          cases e
          obtain ⟨f, C, hs, hf⟩ := hq c mf em
          obtain ⟨a, ox, od, rfl, rfl, J⟩ := ins_look I r1 rx
          obtain ⟨a2, ox2, od2, rfl, rfl, J2⟩ := ins_look I r2 ry
          obtain ⟨m, hF⟩ := I.fr
          refine PySem.W.cmp_K (op := .Eq) (tb := .ref (adr c)) (by omega) hF I.ok.mod.kin J J2.type (by simp [PySem.W.notFirst]) hs hf ?_
          refine run_pureW (vs := [.ref a, .ref a2]) C (sub_of (hr.mono (by omega))) I hrel (.cons rfl (.cons rfl .nil)) (Reps.cons r1 (Reps.cons r2 Reps.nil)) er fun v u H' s' I' g hr' rp rr => ?_
          have ev := rep_bl rp
          subst ev
          cases rr
          exact ⟨.bl r, H', I', rfl, q _ _ _ hr' (Ex.grow hrel.ok g) rp⟩
        · cases e
      · cases e
    · cases e
  · split at e
    · rename_i w' ew
      cases e
      exact mo_eqB hu pins s σ H x y v u Q I rx ry ⟨T, h, w1, w2, w, hrel, r1, r2, ew, q⟩
    · split at e
      · rename_i r er
        cases e
        refine wpAny_mono (deqP_at (A := X.A) hq 6 w1 w2 r er ((sub_of hr).mono (by omega)) pins s σ T h H x y v u I hrel r1 r2 rx ry) (fun z s' hz => ?_) fun _ _ z => z
        obtain ⟨rfl, H', I', g⟩ := hz
        exact ⟨.bl r, H', I', rfl, q _ _ _ (hrel.grow g) (Ex.grow hrel.ok g) (by unfold Rep; rfl)⟩
      · cases e
def mNegO (mq : Nat -> Option FM) (a : EM) : EM := fun me h => (a me h).bind fun x h => match x with
  | .ins c fn fv => match mq c with
    | some mf => ofO (pureW mf [.ins c fn fv]) h
    | none => .stuck
  | _ => .stuck
theorem me_negO {a : Expr} {ma : EM} {pos : Pos} (hq : Owns X adr k "__neg__" mq) (hr : Room k X.A) (ha : ME X adr Y a ma) : ME X adr Y (.UnaryOp .USub a pos) (mNegO mq ma) := by
  have ho : UnR X (unaryOp .USub) (fun x H Q => ∃ T h c fn fv mf w, Hrel (kt X adr) T h H /\ Rep (kt X adr) T H (.ins c fn fv) x /\ mq c = some mf /\ pureW mf [.ins c fn fv] = some w /\ Hands (kt X adr) T h H w Q) := by
    intro pins s σ H x v Q I rx ⟨T, h, c, fn, fv, mf, w, hrel, r1, em, ew, q⟩
    obtain ⟨f, C, hs, hf⟩ := hq c mf em
    obtain ⟨a, ox, od, rfl, rfl, J⟩ := ins_look I r1 rx
    obtain ⟨m, hF⟩ := I.fr
    refine PySem.W.ksp_neg hF I.ok.mod.kin J hs hf ?_
    refine run_pureW (vs := [.ref a]) C (sub_of hr) I hrel (.cons rfl .nil) (Reps.cons r1 Reps.nil) ew fun v u H' s' I' g hr' rp rr => ?_
    exact ⟨v, H', I', rr, q _ _ _ hr' (Ex.grow hrel.ok g) rp⟩
  exact pe_imp (pe_un ho ha) fun σ H Q ⟨T, me, h, hr, hE, q⟩ => ⟨T, me, h, hr, hE, Res.bind q fun x h1 _ T1 H1 v hr1 x1 rp q1 => by
    cases x with
    | ins c fn fv =>
      dsimp only at q1
      cases em : mq c with
      | none => rw [em] at q1; exact q1.elim
      | some mf =>
        rw [em] at q1
        dsimp only at q1
        cases ew : pureW mf [.ins c fn fv] with
        | none => rw [ew] at q1; exact q1.elim
        | some w =>
          rw [ew] at q1
          exact ⟨T1, h1, c, fn, fv, mf, w, hr1, rp, em, ew, q1⟩
    | _ => exact q1.elim⟩
def wIxO (mq : Nat -> Option FM) : F2 := fun a b h => match a with
  | .ins c fn fv => match mq c with
    | some mf => pureW mf [.ins c fn fv, b]
    | none => none
  | a => none
theorem me_ixO {a b : Expr} {ma mb : EM} {pos : Pos} (hq : Owns X adr k "__getitem__" mq) (hfi : ∀ c mf, mq c = some mf -> ∀ f, PySem.W.findIn X.K (.ref (adr c)) "__getitem__" = some (some (.ref f)) -> PySem.W.fnIn X.K f = true) (hr : Room (k + 1) X.A) (ha : ME X adr Y a ma) (hb : ME X adr Y b mb)
    (hs : ∀ o i, subscripted b true o i = runValue (.builtin "lifetime.subscript" ⟨[o, i], []⟩)) : ME X adr Y (.Subscript a b pos) (mBin (wIxO mq) ma mb) := by
  refine pe_imp (t := tOp (rW (kt X adr) (wIxO mq)) (rdE (kt X adr) Y ma) (rdE (kt X adr) Y mb)) ⟨fun pins s σ H Q I h => ?_⟩ (rd_op op2_rW)
  refine Subscript_ (binT ha hb I h fun v u s2 x y H2 I2 rx ry ⟨T, h, w1, w2, w, hrel, r1, r2, e, q⟩ => ?_)
  unfold wIxO at e
  split at e
  · rename_i c fn fv
    split at e
    · rename_i mf em
      obtain ⟨f, C, hs', hf⟩ := hq c mf em
      obtain ⟨a, ox, od, rfl, rfl, J⟩ := ins_look I2 r1 rx
      obtain ⟨m, hF⟩ := I2.fr
      refine PySem.W.sub_K hF I2.ok.mod.kin J hs' (hfi c mf em f hs') hf ?_ (hs _ _)
      refine run_pureW (vs := [.ref a, y]) C (sub_of hr).in1 I2 hrel (.cons rfl (.cons ry .nil)) (Reps.cons r1 (Reps.cons r2 Reps.nil)) e fun v u H' s' I' g hr' rp rr => ?_
      exact ⟨v, H', I', rr, q _ _ _ hr' (Ex.grow hrel.ok g) rp⟩
    · cases e
  · cases e
def wInO (neg : Bool) (mq : Nat -> Option FM) : F2 := fun a b h => match b with
  | .ins c fn fv => match mq c with
    | some mf => (match pureW mf [.ins c fn fv, a] with
      | some (.bl r) => some (.bl (xor neg r))
      | _ => none)
    | none => none
  | b => none
theorem in_own {op : CmpOp} {neg : Bool} (hq : Owns X adr k "__contains__" mq) (hr : Room k X.A)
    (ho : ∀ {A : Around} {s : Shared} {x C f : Addr} {m : Str -> Option Value} {ox : Obj} {od : Option Obj} {L : Addr} {v : Value} {Q : Value -> Shared -> Prop}, PyProof.Rows.Fr X.base L s.heap m -> PySem.W.InstAt s.heap x ox C od -> PySem.W.findIn X.K (.ref C) "__contains__" = some (some (.ref f)) -> PySem.W.isFn X.K (.ref f) = true -> X.K.In X.base ->
      wpAny (model X.prog X.w) A (call (.ref f) [.ref x, v]) (fun r s' => ∃ b, r = .bool b /\ Q (.bool (xor neg b)) s') X.xe s -> wpAny (model X.prog X.w) A (compareOp op v (.ref x)) Q X.xe s) : MO X adr (compareOp op) (wInO neg mq) := by
  intro pins s σ H x y v u Q I rx ry ⟨T, h, w1, w2, w, hrel, r1, r2, e, q⟩
  unfold wInO at e
  split at e
  · rename_i c fn fv
    split at e
    · rename_i mf em
      split at e
      · rename_i r er
        cases e
        obtain ⟨f, C, hs, hf⟩ := hq c mf em
        obtain ⟨a, ox, od, rfl, rfl, J⟩ := ins_look I r2 ry
        obtain ⟨m, hF⟩ := I.fr
        refine ho hF J hs hf I.ok.mod.kin ?_
        refine run_pureW (vs := [.ref a, x]) C (sub_of hr) I hrel (.cons rfl (.cons rx .nil)) (Reps.cons r2 (Reps.cons r1 Reps.nil)) er fun v u H' s' I' g hr' rp rr => ?_
        have ev := rep_bl rp
        subst ev
        cases rr
        exact ⟨r, rfl, .bl (xor neg r), H', I', rfl, q _ _ _ hr' (Ex.grow hrel.ok g) (by unfold Rep; rfl)⟩
      · cases e
    · cases e
  · cases e
theorem mo_inO (hq : Owns X adr k "__contains__" mq) (hr : Room k X.A) : MO X adr (compareOp .In) (wInO false mq) := in_own hq hr fun F J hs hf h0 h =>
  PySem.W.in_K F h0 J hs hf (wpAny_mono h (fun r s' ⟨b, e, z⟩ => by subst e; exact wpAny_truthy_bool (by simpa using z)) fun _ _ z => z)
theorem mo_notInO (hq : Owns X adr k "__contains__" mq) (hr : Room k X.A) : MO X adr (compareOp .NotIn) (wInO true mq) := in_own hq hr fun F J hs hf h0 h =>
  PySem.W.notIn_K F h0 J hs hf (wpAny_mono h (fun r s' ⟨b, e, z⟩ => by subst e; exact wpAny_truthy_bool (by simpa using z)) fun _ _ z => z)
def wLenO (mq : Nat -> Option FM) : FA := fun ws h => match ws with
  | [.ins c fn fv] => match mq c with
    | some mf => (match pureW mf [.ins c fn fv] with
      | some (.int (.ofNat n)) => (match lenLe n with
        | true => some (.int (.ofNat n))
        | false => none)
      | _ => none)
    | none => none
  | _ => none
theorem mc_lenO (hq : Owns X adr k "__len__" mq) (hr : Room (k + 1) X.A) : MC X adr (.builtin "len") (wLenO mq) := by
  intro pins s σ H vs us Q I rv ⟨T, h, ws, w, hrel, rs, e, q⟩
  unfold wLenO at e
  split at e
  · rename_i c fn fv
    split at e
    · rename_i mf em
      split at e
      · rename_i n en
        split at e
        · rename_i hn
          cases e
          have hn := lenLe_iff hn
          rw [sizeLine_eq] at hn
          obtain ⟨f, C, hs, hf⟩ := hq c mf em
          obtain ⟨v, rfl, rp⟩ := reps1 rs
          obtain ⟨u, rfl, ru⟩ := rv.one
          obtain ⟨a, ox, od, rfl, rfl, J⟩ := ins_look I rp ru
          obtain ⟨m, hF⟩ := I.fr
          refine PySem.W.len_K hF I.ok.mod.kin J hs hf ?_
          refine run_pureW (vs := [.ref a]) C (sub_of hr).in1 I hrel (.cons rfl .nil) (Reps.cons rp Reps.nil) en fun v u H' s' I' g hr' rp rr => ?_
          have ev := rep_int rp
          subst ev
          obtain ⟨t, rfl⟩ := rr
          exact ⟨⟨Int.natCast_nonneg n, by show (n : Int) < 2 ^ 63; omega⟩, .int (.ofNat n), H', I'.tok _, ⟨_, rfl⟩, q _ _ _ hr' (Ex.grow hrel.ok g) rp⟩
        · cases e
      · cases e
    · cases e
  · cases e
theorem me_propC {e : Expr} {mo : EM} {pos : Pos} {fl : Str} {c : Nat} {pa f : Addr} {mf : FM} (he : ME X adr Y e mo) (hc : Cls X.K (adr c)) (hp : PropOf X.K (adr c) fl pa f) (C : Cal X.prog X.w X.K X.mg X.base adr f k mf []) (hr : Room (k + 1) X.A)
    (hab : attributeBase e fl X.env (eval e X.env) = eval e X.env) : ME X adr Y (.Attribute e fl pos) (mProp c mf mo) := by
  obtain ⟨fd, ps, ds, F, hb, hd⟩ := C.ex
  have hds : ds = [] := by
    obtain ⟨dvs, rd, rpd⟩ := hd (kt X adr) ⟨fun _ => none, 0, [], fun _ => ""⟩ (fun _ => none) rfl
    unfold Reps at rpd
    subst rpd
    cases rd
    rfl
  subst hds
  exact me_prop he hc hp F hr hb hab
end
end Mi
end
section
namespace Mi
open PySem PySem.Spec PyProof.Rows L2
variable {G : Kt} {X : Cx} {adr : Ad} {Y : WX}
def mRevL (m : EM) : EM := fun me h => (m me h).bind fun w h => match w with
  | .lst ws => .ok (.lst ws.reverse) h
  | _ => .stuck
theorem Reps.rev {T : Tie} {H : Hp} : ∀ {ws : List W} {vs : List V}, Reps G T H ws vs -> Reps G T H ws.reverse vs.reverse
  | [], vs, r => by unfold Reps at r; subst r; exact Reps.nil
  | w :: ws, vs, r => by
    unfold Reps at r
    obtain ⟨u, s, rfl, h1, h2⟩ := r
    rw [List.reverse_cons, List.reverse_cons]
    exact h2.rev.append (Reps.cons h1 Reps.nil)
theorem me_revL {e : Expr} {m : EM} {k : Nat} {p1 p2 p3 pos : Pos} (he : ME X adr Y e m) : ME X adr Y (.Subscript e (.Slice none none (some (.UnaryOp .USub (.Constant (.int 1) k p1) p2)) p3) pos) (mRevL m) :=
  pe_imp (pe_revL he) fun σ H Q ⟨T, me, h, hr, hE, q⟩ => ⟨T, me, h, hr, hE, Res.bind q fun w h1 _ T1 H1 v hr1 x1 rp q1 => by
    cases w with
    | lst ws =>
      obtain ⟨a, vs, rfl, qa, rs⟩ := lst_at hr1 rp (show lstOf (.lst ws) h1 = some ws from rfl)
      exact ⟨a, vs, rfl, .inl (.inl qa), Hands.lst hr1 rs.rev q1⟩
    | _ => exact q1.elim⟩
def layT : Hp -> List Addr -> List V -> List V -> Hp
  | H, a :: as, k :: ks, v :: vs => layT (upd H a (.tup [k, v])) as ks vs
  | H, _, _, _ => H
theorem lay_off {b : Addr} : ∀ (as : List Addr) (ks vs : List V) (H : Hp), b ∉ as -> layT H as ks vs b = H b
  | [], _, _, _, _ => rfl
  | _ :: _, [], _, _, _ => rfl
  | _ :: _, _ :: _, [], _, _ => rfl
  | a :: as, k :: ks, v :: vs, H, h => by
    show layT (upd H a (.tup [k, v])) as ks vs b = H b
    rw [lay_off as ks vs _ (fun z => h (List.mem_cons_of_mem _ z)), upd_ne (fun z => h (by rw [z]; exact List.mem_cons_self))]
theorem lay_at : ∀ (as : List Addr) (ks vs : List V) (H : Hp), as.length = ks.length -> as.length = vs.length -> as.Nodup -> ∀ (j : Nat) (a : Addr), as[j]? = some a -> ∃ k v, ks[j]? = some k /\ vs[j]? = some v /\ layT H as ks vs a = some (.tup [k, v])
  | [], _, _, _, _, _, _, j, a, e => by simp at e
  | _ :: _, [], _, _, h, _, _, _, _, _ => by cases h
  | _ :: _, _ :: _, [], _, _, h, _, _, _, _ => by cases h
  | a :: as, k :: ks, v :: vs, H, h1, h2, nd, 0, b, e => by
    cases e
    refine ⟨k, v, rfl, rfl, ?_⟩
    show layT (upd H a (.tup [k, v])) as ks vs a = _
    rw [lay_off as ks vs _ (List.nodup_cons.mp nd).1, upd_same]
  | a :: as, k :: ks, v :: vs, H, h1, h2, nd, j + 1, b, e => lay_at as ks vs (upd H a (.tup [k, v])) (Nat.succ.inj h1) (Nat.succ.inj h2) (List.nodup_cons.mp nd).2 j b e
theorem lay_rep {T : Tie} {h : MH} : ∀ (as : List Addr) (kv vv : List V) (ks vs : List W) (H : Hp), Hrel G T h H -> as.length = kv.length -> as.length = vv.length -> as.Nodup -> (∀ a ∈ as, H a = none) -> Reps G T H ks kv -> Reps G T H vs vv ->
    Hrel G T h (layT H as kv vv) /\ Ex T T H (layT H as kv vv) /\ Reps G T (layT H as kv vv) (zipW ks vs) (as.map V.ref)
  | [], kv, vv, ks, vs, H, hr, h1, h2, _, _, r1, r2 => by
    obtain rfl : kv = [] := by cases kv <;> first | rfl | cases h1
    obtain rfl : vv = [] := by cases vv <;> first | rfl | cases h2
    cases ks with
    | nil => exact ⟨hr, Ex.rfl' hr.ok, Reps.nil⟩
    | cons _ _ => have := r1.length; cases this
  | a :: as, k :: kv, v :: vv, ks, vs, H, hr, h1, h2, nd, new, r1, r2 => by
    cases ks with
    | nil => have := r1.length; cases this
    | cons x ks =>
      cases vs with
      | nil => have := r2.length; cases this
      | cons y vs =>
        unfold Reps at r1 r2
        obtain ⟨_, _, e1, p1, q1⟩ := r1
        obtain ⟨_, _, e2, p2, q2⟩ := r2
        cases e1
        cases e2
        obtain ⟨A, B, C⟩ := pair_laid hr (new a List.mem_cons_self) (Reps.cons p1 (Reps.cons p2 Reps.nil))
        obtain ⟨nd1, nd2⟩ := List.nodup_cons.mp nd
        obtain ⟨A2, B2, C2⟩ := lay_rep as kv vv ks vs _ A (Nat.succ.inj h1) (Nat.succ.inj h2) nd2 (fun b hb => by rw [upd_ne (fun z => nd1 (by rw [<- z]; exact hb))]; exact new b (List.mem_cons_of_mem _ hb)) (reps_ex B _ _ q1) (reps_ex B _ _ q2)
        exact ⟨A2, B.trans B2, Reps.cons (rep_ex B2 _ _ C) C2⟩
  | _ :: _, [], _, _, _, _, _, h, _, _, _, _, _ => by cases h
  | _ :: _, _ :: _, [], _, _, _, _, _, h, _, _, _, _ => by cases h
section
variable {P : Program} {w : World} {A : Around} {E : Value -> Shared -> Prop} {s : Shared} {r d : Addr} {es : Array DictEntry} {ep : Nat}
theorem initI {R : Result -> Shared -> Prop} (hh : A.handled = none) (hv : s.heap.IsItemsView r d) (hm : DT.Raw s.heap d es ep) (S : Addr) (hSr : S ≠ r) (hSd : d ≠ S) (hS : s.heap.get? S = some { cls := .type "list", data := .seq #[] })
    (hR : ∀ h' tk acc c as, (∀ b o, b ≠ S -> s.heap.get? b = some o -> h'.get? b = some o) -> h'.get? S = some { cls := .type "list", dict := none, data := .seq acc c, slots := #[] } -> as.length = es.size -> DT.Made es S h' as ->
      acc.toList = as.map Value.ref -> R (.ok (.ret .none)) { s with heap := h', toks := tk }) (hn : es.size <= sizeLine) :
    wpAny (model P w) A.in1 (Builtin.«list.__init__» ⟨[.ref S, .ref r], []⟩)
      (fun fin s' => match fin with | .done f => R (.ok f) s' | .again c' => c'.quiet = true /\ codeAny (model P w) A c' R s') (fun e s' => R (.error e) s') s := by
  show wpAny _ _ (do let old <- Builtin.List.listItems (.ref S); Builtin.List.listUpdate (.ref S) (fun _ => #[]); letGo old.toList.reverse; Builtin.List.listExtendWith (.ref S) (.ref r) .none) _ _ s
  refine wpAny_bind ?_
  unfold Builtin.List.listItems
  refine wpAny_bind (wpAny_seqItems hS rfl (wpAny_pure ?_))
  show wpAny _ _ (updateSeq S (fun _ => #[]) >>= fun _ => letGo (#[] : Array Value).toList.reverse >>= fun _ => Builtin.List.listExtendWith (.ref S) (.ref r) .none) _ _ s
  refine wpAny_bind (wpAny_updateSeq hS rfl ?_)
  have hS₂ := Heap.get?_update_self (Obj.mapSeq (fun _ => (#[] : Array Value))) hS rfl
  have oth : ∀ b o, b ≠ S -> s.heap.get? b = some o -> (s.heap.update S (Obj.mapSeq (fun _ => (#[] : Array Value)))).get? b = some o :=
    fun b o hb e => (Heap.get?_update_other _ _ (Ne.symm hb)).trans e
  refine wpAny_bind (wpAny_letGo ?_)
  refine DT.extI (es := es) (ep := ep) hh (let ⟨o, ho, x⟩ := hv; ⟨o, oth r o hSr.symm ho, x⟩) (hm.at' fun o e => oth d o hSd e) S hSr hSd .none _ hS₂ (fun h' tk acc c as hk hS' hl hG hacc => ?_) hn
  exact hR h' tk acc c as (fun b o hb e => hk b o hb (oth b o hb e)) hS' hl (hG.low (Nat.le_of_lt (Heap.lt_size hS₂))) hacc
theorem callI {Q : Value -> Shared -> Prop} (hh : A.handled = none) (hv : s.heap.IsItemsView r d) (hm : DT.Raw s.heap d es ep) (hn : es.size <= sizeLine)
    (hQ : ∀ h' tk acc c as, (∀ b o, s.heap.get? b = some o -> h'.get? b = some o) -> h'.get? s.heap.objs.size = some { cls := .type "list", dict := none, data := .seq acc c, slots := #[] } -> as.length = es.size -> DT.Made es s.heap.objs.size h' as ->
      acc.toList = as.map Value.ref -> Q (.ref s.heap.objs.size) { s with heap := h', toks := tk }) :
    wpAny (model P w) A (call (.type "list") [.ref r]) Q E s := by
  refine callType_codes (Q₁ := fun obj s₁ => obj = .ref s.heap.objs.size /\ s₁ = { s with heap := s.heap.push { cls := .type "list", data := .seq #[] } }) PySem.F.called_list (PySem.F.typeCall_list_1 _) PySem.F.entry_list_init
    (code_list_new _ ⟨rfl, rfl⟩) fun obj s₁ h₁ => ?_
  obtain ⟨rfl, rfl⟩ := h₁
  have hS : (s.heap.push { cls := .type "list", data := .seq #[] }).get? s.heap.objs.size = some { cls := .type "list", data := .seq #[] } := Heap.get?_push_size _ rfl
  have hr : r < s.heap.objs.size := let ⟨_, ho, _⟩ := hv; Heap.lt_size ho
  have hd : d < s.heap.objs.size := hm.lt
  refine ⟨⟨_, hS, rfl⟩, PySem.F.args_list_init_2 _ _, initI (es := es) (ep := ep) (A := A.in1) hh (let ⟨o, ho, x⟩ := hv; ⟨o, Heap.get?_push_of_some _ ho, x⟩) (hm.push _) _ (Nat.ne_of_gt hr) (Nat.ne_of_lt hd) hS (fun h' tk acc c as hk hS' hl hG hacc => ?_) hn⟩
  exact ⟨rfl, hQ h' tk acc c as (fun b o e => hk b o (Nat.ne_of_lt (Heap.lt_size e)) (Heap.get?_push_of_some _ e)) hS' hl hG hacc⟩
end
def mLstIt (m : EM) : EM := fun me h => (m me h).bind fun w h => match dctOf w h with
  | some (ks, vs) => .ok (.lst (zipW ks vs)) h
  | none => .stuck
section
variable {pins : List (Addr × Obj)} {σ : Sl} {H : Hp} {s : Shared} {h' : Heap} {tk : Nat} {es : Array DictEntry} {kv vv : List V} {is : List Int} {acc : Array Value} {c : Nat} {as : List Addr}
theorem itemsW_laid (I : Inv X pins σ H s) (hz : kv.length <= sizeLine) (en : Ents es.toList kv vv is)
    (hk : ∀ b o, s.heap.get? b = some o -> h'.get? b = some o) (hS : h'.get? s.heap.objs.size = some { cls := .type "list", dict := none, data := .seq acc c, slots := #[] }) (hl : as.length = es.size) (hG : DT.Made es s.heap.objs.size h' as) (hacc : acc.toList = as.map Value.ref) :
    H s.heap.objs.size = none /\ (∀ t ∈ as, H t = none) /\ s.heap.objs.size ∉ as /\ as.Nodup /\ as.length = kv.length /\ as.length = vv.length /\ Inv X pins σ (upd (layT H as kv vv) s.heap.objs.size (.lst (as.map V.ref))) { s with heap := h', toks := tk } := by
  obtain ⟨z1, z2⟩ := en.len
  have l1 : as.length = kv.length := by rw [hl, <- z1, Array.length_toList]
  have l2 : as.length = vv.length := by rw [hl, <- z2, Array.length_toList]
  have hSn : s.heap.objs.size ∉ as := fun z => Nat.lt_irrefl _ (hG.above _ z)
  have nd : as.Nodup := List.Pairwise.imp (fun {a b} (h : a < b) => Nat.ne_of_lt h) hG.rise
  have new : ∀ t ∈ as, H t = none := fun t ht => I.hok.fresh (Nat.le_of_lt (hG.above t ht))
  have newS : H s.heap.objs.size = none := I.hok.fresh (Nat.le_refl _)
  have atP := lay_at as kv vv H l1 l2 nd
  have off : ∀ b, b ∉ as -> b ≠ s.heap.objs.size -> upd (layT H as kv vv) s.heap.objs.size (.lst (as.map V.ref)) b = H b := fun b h1 h2 => by rw [upd_ne h2, lay_off _ _ _ _ h1]
  have low : ∀ b o, s.heap.get? b = some o -> b ∉ as /\ b ≠ s.heap.objs.size := fun b o e => ⟨fun z => absurd (Heap.lt_size e) (Nat.not_lt.mpr (Nat.le_of_lt (hG.above b z))), Nat.ne_of_lt (Heap.lt_size e)⟩
  have kp : ∀ b u, H b = some u -> (upd (layT H as kv vv) s.heap.objs.size (.lst (as.map V.ref))) b = some u := fun b u e => by
    rw [off b (fun z => by rw [new b z] at e; cases e) (fun z => by rw [z, newS] at e; cases e)]
    exact e
  refine ⟨newS, new, hSn, nd, l1, l2, ?_⟩
  refine I.call' (ch := []) rfl ⟨fun b o q _ _ _ => hk b o q, fun b o q _ _ _ => ⟨o.slots, hk b o q⟩, fun b o q n _ => ?_, fun b o q _ => ⟨o, hk b o q⟩, fun b xs q => kp b _ q, fun b o u q => kp b _ q, fun b ps q => ⟨#[], by rw [kp b _ q]; simp⟩⟩ (fun b u q => ?_) I.bare fun b z => by simp at z
  · obtain ⟨z1, z2⟩ := low b o q
    rw [off b z1 z2]
    exact n
  · by_cases hb2 : b = s.heap.objs.size
    · rw [hb2] at q ⊢
      rw [upd_same] at q
      cases q
      refine ⟨by rw [List.length_map]; omega, acc.toList, c, by rw [hacc]; exact LiI.vals_refs as, ?_⟩
      rw [Array.toArray_toList]
      exact hS
    · by_cases hb : b ∈ as
      · obtain ⟨j, e1⟩ := List.mem_iff_getElem?.mp hb
        obtain ⟨k, v, e2, e3, e4⟩ := atP j b e1
        rw [upd_ne hb2, e4] at q
        cases q
        obtain ⟨en', f1, f3⟩ := hG.pairs j b e1
        have f1' : es.toList[j]? = some en' := by simpa using f1
        obtain ⟨k1, v1, g1, g2, q1, q2⟩ := en.get f1'
        rw [e2] at g1
        rw [e3] at g2
        cases g1
        cases g2
        exact ⟨by show 2 <= sizeLine; decide, [en'.key, en'.val], .cons q1 (.cons q2 .nil), ⟨_, f3, rfl, _, rfl⟩⟩
      · rw [off b hb hb2] at q
        exact (I.hok b u q).stay (fun d v _ y => hk d v y) (fun d y => kp d _ y) fun d xs y => kp d _ y
end
theorem me_lstIt {e : Expr} {m : EM} {p apos cpos pos : Pos} (hc : X.calm = true) (he : ME X adr Y e m) (hg : Gl X "list") (hm : X.mg "list" = none) (hbase : attributeBase e "items" X.env (eval e X.env) = eval e X.env := by rfl) (hline : (apos.endLine == cpos.line) = true := by rfl)
    (hs : starEach [.Call (.Attribute e "items" apos) [] [] cpos] X.env = (false, eval (.Call (.Attribute e "items" apos) [] [] cpos) X.env) :: starEach [] X.env := by rfl) :
    ME X adr Y (.Call (.Name "list" p) [.Call (.Attribute e "items" apos) [] [] cpos] [] pos) (mLstIt m) := by
  have hv : bootBuiltins "list" = some (.type "list") := by rfl
  refine pe_imp (t := fun σ H Q => rdE (kt X adr) Y m σ H fun x H1 => ∃ T h w ks vs, Hrel (kt X adr) T h H1 /\ Rep (kt X adr) T H1 w x /\ dctOf w h = some (ks, vs) /\ Hands (kt X adr) T h H1 (.lst (zipW ks vs)) Q) ⟨fun pins s σ H Q I hq => ?_⟩ fun σ H Q ⟨T, me, h, hr, hE, q⟩ => ⟨T, me, h, hr, hE, Res.bind q fun w h1 _ T1 H1 v hr1 x1 rp q1 => by
    cases ed : dctOf w h1 with
    | none => rw [ed] at q1; exact q1.elim
    | some t =>
      rw [ed] at q1
      exact ⟨T1, h1, w, t.1, t.2, hr1, rp, ed, q1⟩⟩
  refine wpAny_Call_Name_kw (ld_blt I hg hm hv ?_)
  refine PyProof.Rows.callWith_type1 ?_ hs rfl
  rw [hs]
  show wpAny _ _ (spliced ((false, eval (.Call (.Attribute e "items" apos) [] [] cpos) X.env) :: backTo pos (starEach [] X.env))) _ _ s
  refine Calls.spliced_cons ?_
  refine wpAny_Call_method (T := "dict") (id := "dict.items") hbase rfl hline F.plainAttrs_dict F.slot_dict_items F.type_dict_items (thn (he.run pins s σ H _ I hq) fun u s1 ⟨x, H1, I1, rx, T, h, w, ks, vs, hr, rp, ed, q⟩ => ?_)
  obtain ⟨a, o, kv, vv, rfl, D⟩ := dct_at hr rp ed
  obtain rfl : u = Value.ref a := rx
  have ea := exact_at I1.hok D.at_
  obtain ⟨es, ep, ed', en, dr⟩ := D.d.raw ea
  have raw : DT.Raw s1.heap a es ep := ⟨o, ea, D.d.1, ed'⟩
  have I2 : Inv X pins σ H1 { s1 with heap := s1.heap.push { cls := .type "dict_items", data := .fields #[.ref a] } } := I1.kept (t' := s1.toks) fun b ob q => Heap.get?_push_of_some _ q
  have hz : kv.length <= sizeLine := by rw [<- D.rk.length]; exact D.ok.1
  have hn : es.size <= sizeLine := by
    have z := en.len.1
    rw [Array.length_toList] at z
    omega
  refine ⟨raw.typeIs, fun b e => by cases e; exact ⟨o, ea, D.d.1.2.1⟩, ?_⟩
  show wpAny _ _ (callWith cpos (.builtin "dict.items") [.ref a] [] []) _ X.xe s1
  refine method_meetsIn F.slot_dict_items F.entry_dict_items rfl (PySem.evalArgs_none ⟨rfl, raw.typeIs, F.args_dict_items_1 _, _, DT.meetsItems D.sm, ⟨raw, ?_⟩⟩)
  refine Calls.spliced_nil ?_
  refine callI (es := es) (ep := ep) (I1.ok.hd hc) ⟨_, Heap.get?_push_size _ rfl, rfl, rfl⟩ (raw.push _) hn fun h' tk acc c as hk hS hl hG hacc => ?_
  obtain ⟨newS, new, hSn, nd, l1, l2, J⟩ := itemsW_laid (tk := tk) I2 hz en hk hS hl hG hacc
  obtain ⟨A, B, C⟩ := lay_rep as kv vv ks vs H1 hr l1 l2 nd new D.rk D.rv
  obtain ⟨A2, B2, C2⟩ := list_laid (p := (s1.heap.push { cls := .type "dict_items", data := .fields #[.ref a] }).objs.size) A (by rw [lay_off _ _ _ _ hSn]; exact newS) C
  exact ⟨.ref _, _, J, rfl, q _ _ _ A2 (B.trans B2) C2⟩
def mMt0 (c : Nat) (m : Str) (mf : FM) (mo : EM) : EM := fun me h => (mo me h).bind fun w h => match insOf w h with
  | some (c', fn, fv) => match Nat.beq c' c with
    | true => (match getF m fn fv with
      | some _ => .stuck
      | none => mf [w] h)
    | false => .stuck
  | none => .stuck
theorem me_mt0 {k : Nat} {f : Addr} {mf : FM} {m : Str} {pos apos : Pos} {o : Expr} {mo : EM} {c : Nat} {pl : Sem Bool} (ho : ME X adr Y o mo) (hc : Cls X.K (adr c)) (hm : Meth X.K (adr c) m f) (C : Cal X.prog X.w X.K X.mg X.base adr f k mf []) (hr : Room k X.A) (tk : L2N.Takes X Y)
    (ht : eval (.Call (.Attribute o m apos) [] [] pos) X.env = (do
      let ov <- eval o X.env
      standAt apos.atName
      let (f, first) <- holding [ov] (getMethod ov m pl)
      callWith pos f first (backTo pos (starEach [] X.env)) (backToKw pos (keywordEach [] X.env)))) :
    ME X adr Y (.Call (.Attribute o m apos) [] [] pos) (mMt0 c m mf mo) := by
  obtain ⟨fd, ps, ds, F, hb, hd⟩ := C.ex
  refine ⟨fun pins s σ H Q I ⟨T, me, h, hR, hE, q⟩ => ?_⟩
  refine PySem.W.methodCall_KW (pl := pl) (thn (ho.run pins s σ H (fun v H1 => ∃ T1 h1 w fn fv, Hrel (kt X adr) T1 h1 H1 /\ Erel (kt X adr) T1 me σ H1 /\ Rep (kt X adr) T1 H1 w v /\ insOf w h1 = some (c, fn, fv) /\ getF m fn fv = none /\ ResV (kt X adr) Y T1 H1 σ (mf [w] h1) Q) I
    ⟨T, me, h, hR, hE, Res.bind q fun w h1 _ T1 H1 v hr1 x1 rp q1 => ?_⟩) fun u s1 ⟨v, H1, I1, rv, T1, h1, w, fn, fv, hr1, hE1, rp, ei, en, q1⟩ => ?_) ht
  · cases ei : insOf w h1 with
    | none => simp only [ei] at q1; exact q1.elim
    | some t =>
      obtain ⟨c', fn, fv⟩ := t
      simp only [ei] at q1
      cases ec : Nat.beq c' c with
      | false => simp only [ec] at q1; exact q1.elim
      | true =>
        simp only [ec] at q1
        obtain rfl := Nat.eq_of_beq_eq_true ec
        cases en : getF m fn fv with
        | some _ => simp only [en] at q1; exact q1.elim
        | none => simp only [en] at q1; exact ⟨T1, h1, w, fn, fv, hr1, hE.ex x1, rp, ei, en, q1⟩
  · obtain ⟨a, dx, vv, rfl, e2, l, r⟩ := insOf_at hr1 rp ei
    obtain rfl : u = .ref a := rv
    refine getmeth_ok I1 e2 hc hm (getF_none l r en) ?_
    exact PySem.W.callWith_K0 I1.kIn hm.kp (run_m (us := [.ref a]) (vs := [.ref a]) (ws := [w]) F hr hb hd tk I1 (.cons rfl .nil) hr1 (Reps.cons rp Reps.nil) q1)
end Mi
end
section
namespace Mi
open PySem PySem.Spec PyProof.Rows L2
theorem funDA {K : PySem.W.Frag} {d : He.DefD} {a : Addr} (e : fnWA K a = d.val) (c : okA K d a = true) : ∃ fd, FunD K d.name d.qual d.params d.body d.scope (d.dvs K) (d.kws K) a fd := by
  obtain ⟨kp, c2⟩ := He.ba c
  unfold fnWA at e
  cases q : K.lookup a with
  | none =>
    rw [q] at c2
    cases c2
  | some o =>
    obtain ⟨oc, od, dt, osl⟩ := o
    rw [q] at c2 e
    cases dt with
    | func fd =>
      obtain ⟨n1, n2, n3, n4, n5, n6, n7, n8, n9, n10, n11, n12, n13, n14, n15⟩ := fd
      have e2 : (some (n1, n2, n3, n4, n5, n6, n7, n15) : He.FnW) = some (d.name, d.qual, d.params, .stmts d.body, d.scope, mainGlobals, [], builtinsNs) := e
      simp only [Option.some.injEq, Prod.mk.injEq] at e2
      obtain ⟨h1, h2, h3, h4, h5, h6, h7, h8⟩ := e2
      subst h1 h2 h3 h4 h5 h6 h7 h8
      have c3 : (PySem.W.codeIn K n13 d.qual && (He.dflB K n8 (d.dvs K) && He.kwdB K n9 (d.kws K))) = true := c2
      obtain ⟨k1, k2⟩ := He.ba c3
      obtain ⟨k3, k4⟩ := He.ba k2
      exact ⟨_, ⟨oc, od, n8, n9, n10, n11, n12, n13, n14, osl, rfl, q, k1, He.dflB_ok k3, He.kwdB_ok k4⟩, kp⟩
    | _ => cases c2
theorem SaysP.def_ {fp : List He.DefD} {K : PySem.W.Frag} (c : SaysP fp K) (i : Nat) {d : He.DefD} (h : fp[i]? = some d := by rfl) : ∃ fd, FunD K d.name d.qual d.params d.body d.scope (d.dvs K) (d.kws K) (pg K d.at_) fd := by
  have c2 : (fp.all fun d => okA K d (pg K d.at_)) = true := congrArg (fun z : He.AlD => z.1) c
  have e : fp.map (fun d => fnWA K (pg K d.at_)) = fp.map He.DefD.val := congrArg (fun z : He.AlD => z.2) c
  have e2 : (fp.map fun d => fnWA K (pg K d.at_))[i]? = (fp.map He.DefD.val)[i]? := by rw [e]
  rw [List.getElem?_map, List.getElem?_map, h] at e2
  exact funDA (Option.some.inj e2) (List.all_eq_true.mp c2 d (List.mem_of_getElem? h))
theorem propB_ok {K : PySem.W.Frag} {C f : Str} (h : propB K (C, some f) = true) : PropOf K (He.ga K C) f (He.fAd K (C, some f)) (pg K (C, some f)) := by
  unfold propB at h
  obtain ⟨h1, h⟩ := He.ba h
  obtain ⟨h2, h⟩ := He.ba h
  obtain ⟨h3, h4⟩ := He.ba h
  refine ⟨He.eqO_ok h1, He.eqO_ok h2, of_decide_eq_true h3, ?_⟩
  unfold pg
  split at h4
  · rename_i g r e
    rw [e]
    exact ⟨r, rfl⟩
  · cases h4
theorem Meth.own {K : PySem.W.Frag} {C f : Addr} {m : Str} (h : Meth K C m f) : OwnD K C f m := ⟨h.at_, h.fn⟩
variable {G : Kt} {X : Cx} {adr : Ad} {Y : WX}
section
variable {prog : Program} {w : World} {A : Around} {E : Value -> Shared -> Prop} {s : Shared}
end
section
variable {T : Tie} {H : Hp} {x : W} {v : V} {u : Value} {ws : List W} {kn : Hp -> Prop} {o : Obj} {It : Addr -> Nat -> Heap -> Prop} {F : List Addr} {Sr : (Nat -> Value -> Prop) -> Heap -> Prop}
end
section
variable {e a b : Expr} {ma mb : EM} {p p2 pos pos2 : Pos}
end
end Mi
end
section
namespace Mi
open PySem PySem.Spec PyProof.Rows L2
variable {G : Kt} {X : Cx} {adr : Ad} {Y : WX}
def prsW : List W -> Option (List W × List W)
  | [] => some ([], [])
  | x :: r => match x with
    | .tup [k, v] => match prsW r with
      | some (ks, vs) => match scal k && !dhas k ks with
        | true => some (k :: ks, v :: vs)
        | false => none
      | none => none
    | _ => none
def wDictL : FA := fun ws _ => match ws with
  | [.lst l] => match lenLe l.length with
    | true => match prsW l with
      | some (ks, vs) => some (.dct ks vs)
      | none => none
    | false => none
  | _ => none
theorem dhas_S {k : W} {κ : Key} (hk : kS k = some κ) : ∀ {ks : List W} {kl : List Key}, ks.map kS = kl.map some -> dhas k ks = false -> κ ∉ kl
  | [], kl, e, h => by
    cases kl with
    | nil => simp
    | cons a r => simp at e
  | x :: ks, kl, e, h => by
    cases kl with
    | nil => simp at e
    | cons a r =>
      rw [List.map_cons, List.map_cons] at e
      obtain ⟨e1, e2⟩ := List.cons.inj e
      unfold dhas at h
      rw [kEq_S e1 hk] at h
      by_cases z : a = κ
      · rw [decide_eq_true z] at h; cases h
      · rw [decide_eq_false z] at h
        intro hm
        rcases List.mem_cons.mp hm with q | q
        · exact z q.symm
        · exact dhas_S hk e2 h q
theorem merged_new : ∀ {more kvs : List (Key × Value)}, (kvs.map (·.1) ++ more.map (·.1)).Nodup -> merged kvs more = kvs ++ more
  | [], kvs, _ => by simp [merged]
  | q :: r, kvs, nd => by
    have h1 : q.1 ∉ kvs.map (·.1) := fun hm => by
      rw [List.nodup_append] at nd
      exact nd.2.2 _ hm _ (by simp) rfl
    have ih := merged_new (more := r) (kvs := kvs ++ [(q.1, q.2)]) (by rw [List.map_append]; simpa using nd)
    unfold merged at ih ⊢
    rw [List.foldl_cons, stored_absent (valueAt_none_of_not_mem h1), ih]
    simp
theorem prs_ok {P : Program} {wo : World} {T : Tie} {H : Hp} {h : Heap} (eP : G.P = P) (ew : G.w = wo) (ok : HOk P wo H h) : ∀ {l ks vs : List W} {xs : List V} {its : List Value}, prsW l = some (ks, vs) -> Reps G T H l xs -> Vals xs its ->
    ∃ (kl : List Key) (vv : List V) (us : List Value), kl.length = us.length /\ kl.length = its.length /\ ks.map kS = kl.map some /\ kl.Nodup /\ Vals vv us /\ Reps G T H vs vv /\ ks.length = kl.length /\
      ∀ (j : Nat) (q : Key × Value), (kl.zip us)[j]? = some q -> ∃ (b : Addr) (u : Value), its[j]? = some (.ref b) /\ IsTup h b #[u, q.2] /\ keyIs q.1 u = true
  | [], ks, vs, xs, its, e, r, rv => by
    cases e
    unfold Reps at r
    subst r
    cases rv
    exact ⟨[], [], [], rfl, rfl, rfl, List.nodup_nil, .nil, .nil, rfl, fun j q e => by simp at e⟩
  | x :: l, ks, vs, xs, its, e, r, rv => by
    unfold prsW at e
    split at e
    · rename_i k v
      cases ep : prsW l with
      | none => rw [ep] at e; cases e
      | some z =>
        obtain ⟨ks', vs'⟩ := z
        rw [ep] at e
        dsimp only at e
        cases sc : (scal k && !dhas k ks') with
        | false => rw [sc] at e; cases e
        | true =>
          rw [sc] at e
          cases e
          rw [Bool.and_eq_true, Bool.not_eq_true'] at sc
          obtain ⟨κ, hκ⟩ := scal_kS sc.1
          unfold Reps at r
          obtain ⟨v1, xs', rfl, r1, r2⟩ := r
          unfold Rep at r1
          obtain ⟨a, cs, rfl, _, qa, rc⟩ := r1
          obtain ⟨c1, c2, rfl, rk, rvv⟩ := reps2 rc
          cases rv with
          | cons ru rt =>
            rename_i u0 its'
            obtain rfl : u0 = .ref a := ru
            obtain ⟨kl, vv, us, e1, e2, e3, nd, e5, e6, e7, e8⟩ := prs_ok eP ew ok ep r2 rt
            obtain ⟨_, tits, trv, tp⟩ := ok _ _ qa
            obtain ⟨u1, u2, rfl, ru1, ru2⟩ := Vals.two trv
            refine ⟨κ :: kl, c2 :: vv, u2 :: us, by simp [e1], by simp [e2], by rw [List.map_cons, List.map_cons, hκ, e3], List.nodup_cons.mpr ⟨dhas_S hκ e3 sc.2, nd⟩, .cons ru2 e5, .cons rvv e6, by simp [e7], fun j q ej => ?_⟩
            cases j with
            | zero =>
              simp at ej
              subst ej
              exact ⟨a, u1, rfl, tp, keyIs_rel hκ rk ru1⟩
            | succ j =>
              rw [List.zip_cons_cons, List.getElem?_cons_succ] at ej
              obtain ⟨b, u, f1, f2, f3⟩ := e8 j q ej
              exact ⟨b, u, by rw [List.getElem?_cons_succ]; exact f1, f2, f3⟩
    · cases e
theorem mc_dictL (hc : X.calm = true) : MC X adr (.type "dict") wDictL := by
  intro pins s σ H vs us Q I rv ⟨T, h, ws, w, hr, rs, e, q⟩
  unfold wDictL at e
  split at e
  · rename_i l
    cases ll : lenLe l.length with
    | false => rw [ll] at e; cases e
    | true =>
      rw [ll] at e
      dsimp only at e
      cases ep : prsW l with
      | none => rw [ep] at e; cases e
      | some z =>
        obtain ⟨ks, vs'⟩ := z
        rw [ep] at e
        cases e
        obtain ⟨v, rfl, rp⟩ := reps1 rs
        obtain ⟨u, rfl, ru⟩ := rv.one
        unfold Rep at rp
        obtain ⟨a, xs, rfl, f, qa, r⟩ := rp
        obtain rfl : u = .ref a := ru
        obtain ⟨_, its, n, trv, ho⟩ := I.hok a _ qa
        obtain ⟨kl, vv, us, e1, e2, e3, nd, e5, e6, e7, e8⟩ := prs_ok (G := kt X adr) rfl rfl I.hok ep r trv
        have lz : (kl.zip us).length = its.length := by rw [List.length_zip]; omega
        have ln : its.length = l.length := by rw [<- trv.length, <- r.length]
        have ls := lenLe_iff ll
        refine call_dict_pairs (prs := kl.zip us) (I.ok.hd hc) ho rfl rfl rfl (by simp [lz]) (by rw [lz, ln]; exact ls) (fun j q' ej => ?_) fun h' tk hd' hk => ?_
        · obtain ⟨b, u, f1, f2, f3⟩ := e8 j q' ej
          exact ⟨b, u, by simpa using f1, f2, f3⟩
        · have mz : merged [] (kl.zip us) = kl.zip us := by
            rw [merged_new (by rw [List.map_nil, List.nil_append, List.map_fst_zip (by omega)]; exact nd)]
            simp
          rw [mz] at hd'
          obtain ⟨o, ho', dd⟩ := back_S (P := X.prog) (wo := X.w) hd' e3 e5 e1
          have hp : H s.heap.objs.size = none := I.hok.fresh (Nat.le_refl _)
          have g : Grow H (upd H s.heap.objs.size (exact o s.heap.objs.size)) := Grow.laid hp
          have x := Ex.grow hr.ok g
          refine ⟨.ref s.heap.objs.size, _, I.laid (t' := tk) hk (Nat.le_refl _) (exact_ok ho'), rfl, q T _ _ (hr.grow g) x ?_⟩
          unfold Rep
          exact ⟨_, o, kl.map kV, vv, rfl, hr.ok.fresh hp, sysN I, ⟨by rw [e7, e2, ln]; exact ls, .inl ⟨kl, e3, nd⟩⟩, upd_same, dd, reps_kV e3, reps_ex x _ _ e6⟩
  · cases e
end Mi
end
section
namespace Mi
open PySem PySem.Spec PyProof.Rows L2
variable {G : Kt} {X : Cx} {adr : Ad} {Y : WX}
def prsT : List W -> Option (List W × List W)
  | [] => some ([], [])
  | x :: r => match x with
    | .tup [k, v] => match prsT r with
      | some (ks, vs) => match (kT k).isSome && !dhas k ks with
        | true => some (k :: ks, v :: vs)
        | false => none
      | none => none
    | _ => none
def wDictA : FA := fun ws h => match wDictL ws h with
  | some w => some w
  | none => match ws with
    | [.lst l] => match lenLe l.length with
      | true => match prsT l with
        | some (ks, vs) => some (.dct ks vs)
        | none => none
      | false => none
    | _ => none
theorem dhas_T {k : W} {κ : NestedKey} (hk : kT k = some κ) : ∀ {ks : List W} {kl : List NestedKey}, ks.map kT = kl.map some -> dhas k ks = false -> κ ∉ kl
  | [], kl, e, h => by
    cases kl with
    | nil => simp
    | cons a r => simp at e
  | x :: ks, kl, e, h => by
    cases kl with
    | nil => simp at e
    | cons a r =>
      rw [List.map_cons, List.map_cons] at e
      obtain ⟨e1, e2⟩ := List.cons.inj e
      unfold dhas at h
      rw [kEq_T e1 hk] at h
      by_cases z : a = κ
      · rw [decide_eq_true z] at h; cases h
      · rw [decide_eq_false z] at h
        intro hm
        rcases List.mem_cons.mp hm with q | q
        · exact z q.symm
        · exact dhas_T hk e2 h q
theorem prsT_ok {P : Program} {wo : World} {T : Tie} {H : Hp} {h : Heap} (eP : G.P = P) (ew : G.w = wo) (ok : HOk P wo H h) : ∀ {l ks vs : List W} {xs : List V} {its : List Value}, prsT l = some (ks, vs) -> Reps G T H l xs -> Vals xs its ->
    ∃ (kl : List NestedKey) (bs as : List Addr) (vv : List V) (us : List Value), kl.length = us.length /\ bs.length = us.length /\ as.length = us.length /\ its = as.map Value.ref /\ ks.map kT = kl.map some /\ kl.Nodup /\ Vals vv us /\ Reps G T H vs vv /\ Reps G T H ks (bs.map V.ref) /\
      (∀ x ∈ kl.zip (bs.zip us), (nestedKind P wo).is h x.1 x.2.1) /\ ∀ (j : Nat) (b : Addr) (u : Value), bs[j]? = some b -> us[j]? = some u -> IsTup h (as.getD j 0) #[.ref b, u]
  | [], ks, vs, xs, its, e, r, rv => by
    cases e
    unfold Reps at r
    subst r
    cases rv
    exact ⟨[], [], [], [], [], rfl, rfl, rfl, rfl, rfl, List.nodup_nil, .nil, Reps.nil, Reps.nil, fun x hx => (nomatch hx), fun j b u e => by simp at e⟩
  | x :: l, ks, vs, xs, its, e, r, rv => by
    unfold prsT at e
    split at e
    · rename_i k v
      cases ep : prsT l with
      | none => rw [ep] at e; cases e
      | some z =>
        obtain ⟨ks', vs'⟩ := z
        rw [ep] at e
        dsimp only at e
        cases sc : ((kT k).isSome && !dhas k ks') with
        | false => rw [sc] at e; cases e
        | true =>
          rw [sc] at e
          cases e
          rw [Bool.and_eq_true, Bool.not_eq_true'] at sc
          obtain ⟨κ, hκ⟩ := Option.isSome_iff_exists.mp sc.1
          unfold Reps at r
          obtain ⟨v1, xs', rfl, r1, r2⟩ := r
          unfold Rep at r1
          obtain ⟨a, cs, rfl, _, qa, rc⟩ := r1
          obtain ⟨c1, c2, rfl, rk, rvv⟩ := reps2 rc
          cases rv with
          | cons ru rt =>
            rename_i u0 its'
            obtain rfl : u0 = .ref a := ru
            obtain ⟨kl, bs, as, vv, us, e1, e2, e3, e4, e5, nd, e6, e7, e8, e9, e10⟩ := prsT_ok eP ew ok ep r2 rt
            obtain ⟨_, tits, trv, tp⟩ := ok _ _ qa
            obtain ⟨u1, u2, rfl, ru1, ru2⟩ := Vals.two trv
            subst eP ew
            obtain ⟨n1, n2, ws, rfl⟩ := kT_nk hκ
            have ni := nested_is ok _ _ _ _ n1 rk ru1
            have rk0 := rk
            unfold Rep at rk
            obtain ⟨b, ys, rfl, _⟩ := rk
            obtain rfl : u1 = .ref b := ru1
            refine ⟨κ :: kl, b :: bs, a :: as, c2 :: vv, u2 :: us, by simp [e1], by simp [e2], by simp [e3], by rw [e4]; rfl, by rw [List.map_cons, List.map_cons, hκ, e5], List.nodup_cons.mpr ⟨dhas_T hκ e5 sc.2, nd⟩, .cons ru2 e6, Reps.cons rvv e7, Reps.cons rk0 e8, fun x hx => ?_, fun j b' u' f1 f2 => ?_⟩
            · rw [List.zip_cons_cons, List.zip_cons_cons] at hx
              rcases List.mem_cons.mp hx with z | z
              · subst z
                exact ⟨ni, n2⟩
              · exact e9 x z
            · cases j with
              | zero =>
                cases f1
                cases f2
                exact tp
              | succ j => exact e10 j b' u' f1 f2
    · cases e
theorem mc_dictA (hc : X.calm = true) (hu : X.A.units + 64 < cLine) : MC X adr (.type "dict") wDictA := MC.mk fun ws h w e => by
  unfold wDictA at e
  split at e
  · rename_i w' ew
    cases e
    exact (mc_dictL hc).case ew
  · refine ⟨rA (kt X adr) (fun ws h => match ws with
      | [.lst l] => match lenLe l.length with
        | true => match prsT l with
          | some (ks, vs) => some (.dct ks vs)
          | none => none
        | false => none
      | _ => none), ?_, fun T H vs Q hr rs q => ⟨T, h, ws, w, hr, rs, e, q⟩⟩
    clear e
    intro pins s σ H vs us Q I rv ⟨T, h, ws, w, hr, rs, e, q⟩
    dsimp only at e
    split at e
    · rename_i l
      cases ll : lenLe l.length with
      | false => rw [ll] at e; cases e
      | true =>
        rw [ll] at e
        dsimp only at e
        cases ep : prsT l with
        | none => rw [ep] at e; cases e
        | some z =>
          obtain ⟨ks, vs'⟩ := z
          rw [ep] at e
          cases e
          obtain ⟨v, rfl, rp⟩ := reps1 rs
          obtain ⟨u, rfl, ru⟩ := rv.one
          unfold Rep at rp
          obtain ⟨a, xs, rfl, f, qa, r⟩ := rp
          obtain rfl : u = .ref a := ru
          obtain ⟨_, its, n, trv, ho⟩ := I.hok a _ qa
          obtain ⟨kl, bs, as, vv, us, e1, e2, e3, e4, e5, nd, e6, e7, e8, e9, e10⟩ := prsT_ok (G := kt X adr) rfl rfl I.hok ep r trv
          have ln : its.length = l.length := by rw [<- trv.length, <- r.length]
          have ls := lenLe_iff ll
          have lu : us.length = l.length := by rw [<- e3, <- ln, e4, List.length_map]
          have lb : (bs.zip us).length = us.length := by rw [List.length_zip, e2, Nat.min_self]
          have lz : (kl.zip (bs.zip us)).length = us.length := by rw [List.length_zip, lb, e1, Nat.min_self]
          have ndk : ((kl.zip (bs.zip us)).map (·.1)).Nodup := by rw [List.map_fst_zip (by omega)]; exact nd
          have lp : ((bs.map Value.ref).zip us).length = us.length := by rw [List.length_zip, List.length_map, e2, Nat.min_self]
          have fresh : ∀ b o, s.heap.get? b = some o -> b ≠ s.heap.objs.size := fun b o e => Nat.ne_of_lt (Heap.lt_size e)
          refine call_dict_pairsH (knd := nestedKind X.prog X.w) (ps := kl.zip (bs.zip us)) (PairArg.list a its.toArray (fun j => as.getD j 0) ((bs.map Value.ref).zip us)) (I.ok.hd hc) (by show X.A.units + 1 + 1 + 8 < cLine; omega) ⟨⟨_, _, ho, rfl, rfl, rfl⟩, ⟨by rw [List.size_toArray, e4, List.length_map, lp, e3], fun j k v ej => ?_⟩⟩ ⟨by rw [lz, lp], fun j k v ej => ?_⟩ (fun h' hk x hx => ?_) (by rw [lp, lu]; exact ls) fun h' tk hd' hk => ?_
          · obtain ⟨g1, g2⟩ := List.getElem?_zip_eq_some.mp ej
            rw [List.getElem?_map] at g1
            cases eb : bs[j]? with
            | none => rw [eb] at g1; cases g1
            | some b =>
              rw [eb] at g1
              cases g1
              have ja : j < as.length := by
                have := (List.getElem?_eq_some_iff.mp g2).1
                omega
              refine ⟨?_, .inl (e10 j b v eb g2)⟩
              rw [List.getElem?_toArray, e4, List.getElem?_map, List.getElem?_eq_getElem ja]
              simp [List.getD, List.getElem?_eq_getElem ja]
          · obtain ⟨g1, g2⟩ := List.getElem?_zip_eq_some.mp ej
            rw [List.getElem?_map] at g1
            cases eb : bs[j]? with
            | none => rw [eb] at g1; cases g1
            | some b =>
              rw [eb] at g1
              cases g1
              have jk : j < kl.length := by
                have := (List.getElem?_eq_some_iff.mp g2).1
                omega
              refine ⟨kl[j], b, List.getElem?_zip_eq_some.mpr ⟨List.getElem?_eq_getElem jk, List.getElem?_zip_eq_some.mpr ⟨eb, g2⟩⟩, rfl⟩
          · exact HeapKind.Stays.all nestedKind_stays h' (fun b o _ e => hk b o (fresh b o e) (by simp) e) _ _ (e9 x hx)
          · rw [storedAllH_nil_of_nodup _ ndk] at hd'
            obtain ⟨o, ho', dd⟩ := back_T (P := X.prog) (wo := X.w) hd' e5 e6 e1 e2
            have hp : H s.heap.objs.size = none := I.hok.fresh (Nat.le_refl _)
            have g : Grow H (upd H s.heap.objs.size (exact o s.heap.objs.size)) := Grow.laid hp
            have x := Ex.grow hr.ok g
            have lk : ks.length = us.length := by have := congrArg List.length e5; simpa [e1] using this
            refine ⟨.ref s.heap.objs.size, _, I.laid (t' := tk) (fun b o e => hk b o (by simp) e) (Nat.le_refl _) (exact_ok ho'), rfl, q T _ _ (hr.grow g) x ?_⟩
            unfold Rep
            exact ⟨_, o, bs.map V.ref, vv, rfl, hr.ok.fresh hp, sysN I, ⟨by rw [lk, lu]; exact ls, .inr ⟨kl, e5, nd⟩⟩, upd_same, dd, reps_ex x _ _ e8, reps_ex x _ _ e7⟩
    · cases e
end Mi
end
section
namespace Mi
open PySem PySem.Spec PyProof.Rows L2
section
variable {M : Model} {prog : Program} {w : World} {A : Around} {E : Value -> Shared -> Prop} {s : Shared} {K : PySem.W.Frag} {x y C f : Addr} {ox oy : Obj} {od od' : Option Obj}
end
section
variable {X : Cx} {adr : Ad} {k : Nat} {mq : Nat -> Option FM}
end
end Mi
end
section
namespace HT
open PySem PySem.Spec PyProof.Rows PySem.W
section
variable {prog : Program} {w : World} {A : Around} {E : Value -> Shared -> Prop} {s : Shared}
end
end HT
namespace Mi
open PySem PySem.Spec PyProof.Rows L2
variable {X : Cx} {adr : Ad} {Y : WX}
end Mi
end
section
namespace Mi
open PySem PySem.Spec PyProof.Rows L2
theorem pureW_go {mf : FM} {ws : List W} {w : W} {h2 : MH} (nr : noRefs ws = true) (e : mf ws h0 = .ok w h2) (nw : noRef w = true) : pureW mf ws = some w := by
  unfold pureW
  rw [nr]
  dsimp only
  rw [e]
  dsimp only
  rw [nw]
theorem negO_go {mq : Nat -> Option FM} {mf : FM} {a : EM} {me : Me} {h h1 : MH} {c : Nat} {fn : List Str} {fv : List W} {w : W} (e : a me h = .ok (.ins c fn fv) h1) (m : mq c = some mf) (p : pureW mf [.ins c fn fv] = some w) : mNegO mq a me h = .ok w h1 := by
  unfold mNegO
  rw [e, bind_ok]
  dsimp only
  rw [m]
  dsimp only
  rw [p]
  rfl
theorem ixO_go {mq : Nat -> Option FM} {mf : FM} {c : Nat} {fn : List Str} {fv : List W} {b w : W} {h : MH} (m : mq c = some mf) (p : pureW mf [.ins c fn fv, b] = some w) : wIxO mq (.ins c fn fv) b h = some w := by
  unfold wIxO
  dsimp only
  rw [m]
  exact p
theorem inO_go {mq : Nat -> Option FM} {neg : Bool} {mf : FM} {c : Nat} {fn : List Str} {fv : List W} {a : W} {r : Bool} {h : MH} (m : mq c = some mf) (p : pureW mf [.ins c fn fv, a] = some (.bl r)) : wInO neg mq a (.ins c fn fv) h = some (.bl (xor neg r)) := by
  unfold wInO
  dsimp only
  rw [m]
  dsimp only
  rw [p]
theorem lenO_go {mq : Nat -> Option FM} {mf : FM} {c : Nat} {fn : List Str} {fv : List W} {n : Nat} {h : MH} (m : mq c = some mf) (p : pureW mf [.ins c fn fv] = some (.int (n : Int))) (l : n <= 100000) : wLenO mq [.ins c fn fv] h = some (.int (n : Int)) := by
  unfold wLenO
  dsimp only
  rw [m]
  dsimp only
  rw [p]
  show (match lenLe n with | true => some (W.int (.ofNat n)) | false => none) = _
  rw [lenLe_of l]
  rfl
theorem eqO_go {mq : Nat -> Option FM} {mf : FM} {c : Nat} {fn fn' : List Str} {fv fv' : List W} {r : Bool} {h : MH} (m : mq c = some mf) (p : pureW mf [.ins c fn fv, .ins c fn' fv'] = some (.bl r)) : wEqO mq (.ins c fn fv) (.ins c fn' fv') h = some (.bl r) := by
  unfold wEqO
  dsimp only
  rw [Nat.beq_refl]
  dsimp only
  rw [m]
  dsimp only
  rw [p]
theorem prop_go {c : Nat} {mf : FM} {m : EM} {me : Me} {h h1 : MH} {fn : List Str} {fv : List W} {w : W} (e : m me h = .ok (.ins c fn fv) h1) (p : mf [.ins c fn fv] h1 = .ok w h1) : mProp c mf m me h = .ok w h1 := by
  unfold mProp
  rw [e, bind_ok]
  show (match Nat.beq c c with | true => (mf [.ins c fn fv] h1).nox | false => R.stuck) = _
  rw [Nat.beq_refl]
  dsimp only
  rw [p]
  rfl
theorem mt0_go {c : Nat} {nm : Str} {mf : FM} {m : EM} {me : Me} {h h1 : MH} {fn : List Str} {fv : List W} {w : W} (e : m me h = .ok (.ins c fn fv) h1) (g : getF nm fn fv = none) (p : mf [.ins c fn fv] h1 = .ok w h1) : mMt0 c nm mf m me h = .ok w h1 := by
  unfold mMt0
  rw [e, bind_ok]
  show (match Nat.beq c c with | true => (match getF nm fn fv with | some _ => R.stuck | none => mf [.ins c fn fv] h1) | false => R.stuck) = _
  rw [Nat.beq_refl]
  dsimp only
  rw [g]
  exact p
theorem mt_go {c : Nat} {nm : Str} {mf : FM} {dws : List W} {m : EM} {as : AM} {me : Me} {h h1 h2 h3 : MH} {fn : List Str} {fv ws : List W} {w : W} (e : m me h = .ok (.ins c fn fv) h1) (g : getF nm fn fv = none) (e2 : as me h1 = .ok ws h2) (p : mf (.ins c fn fv :: (ws ++ dws)) h2 = .ok w h3) : mMt c nm mf dws m as me h = .ok w h3 := by
  unfold mMt
  rw [e, bind_ok]
  show (match Nat.beq c c with | true => (match getF nm fn fv with | none => (as me h1).bind fun ws h => mf (.ins c fn fv :: (ws ++ dws)) h | some _ => R.stuck) | false => R.stuck) = _
  rw [Nat.beq_refl]
  dsimp only
  rw [g]
  dsimp only
  rw [e2, bind_ok]
  exact p
theorem lstIt_go {m : EM} {me : Me} {h h1 : MH} {ks vs : List W} (e : m me h = .ok (.dct ks vs) h1) : mLstIt m me h = .ok (.lst (zipW ks vs)) h1 := by
  unfold mLstIt
  rw [e, bind_ok]
  rfl
theorem revL_go {m : EM} {me : Me} {h h1 : MH} {ws : List W} (e : m me h = .ok (.lst ws) h1) : mRevL m me h = .ok (.lst ws.reverse) h1 := by
  unfold mRevL
  rw [e, bind_ok]
theorem prsT_map {κ β : Type} [DecidableEq κ] {e : κ -> W} (E : KEnc e) (g : ∀ a, (kT (e a)).isSome = true) (f : β -> W) : ∀ l : List (κ × β), (l.map Prod.fst).Nodup -> prsT (l.map fun q => W.tup [e q.1, f q.2]) = some ((l.map Prod.fst).map e, (l.map Prod.snd).map f)
  | [], _ => rfl
  | q :: l, nd => by
    rw [List.map_cons, List.nodup_cons] at nd
    rw [List.map_cons]
    unfold prsT
    dsimp only
    rw [prsT_map E g f l nd.2]
    dsimp only
    rw [g, dhas_map E, decide_eq_false nd.1]
    rfl
theorem dictT_go {κ β : Type} [DecidableEq κ] {e : κ -> W} (E : KEnc e) (g : ∀ a, (kT (e a)).isSome = true) (f : β -> W) {l : List (κ × β)} (nd : (l.map Prod.fst).Nodup) (ll : l.length <= 100000) (h : MH) : wDictA [.lst (l.map fun q => W.tup [e q.1, f q.2])] h = some (dctW e f l) := by
  unfold wDictA
  have k1 : lenLe (l.map fun q => W.tup [e q.1, f q.2]).length = true := by rw [List.length_map]; exact lenLe_of ll
  cases l with
  | nil => rfl
  | cons q r =>
    have ns : wDictL [.lst ((q :: r).map fun q => W.tup [e q.1, f q.2])] h = none := by
      unfold wDictL
      dsimp only
      rw [k1]
      dsimp only
      rw [List.map_cons]
      unfold prsW
      dsimp only
      have sc : scal (e q.1) = false := by
        obtain ⟨k, hk⟩ := Option.isSome_iff_exists.mp (g q.1)
        exact kT_scal hk
      rw [sc]
      cases prsW (r.map fun q => W.tup [e q.1, f q.2]) with
      | none => rfl
      | some z => rfl
    rw [ns]
    dsimp only
    rw [k1]
    dsimp only
    rw [prsT_map E g f _ nd]
theorem prsS_map {κ β : Type} [DecidableEq κ] {e : κ -> W} (E : KEnc e) (g : ∀ a, scal (e a) = true) (f : β -> W) : ∀ l : List (κ × β), (l.map Prod.fst).Nodup -> prsW (l.map fun q => W.tup [e q.1, f q.2]) = some ((l.map Prod.fst).map e, (l.map Prod.snd).map f)
  | [], _ => rfl
  | q :: l, nd => by
    rw [List.map_cons, List.nodup_cons] at nd
    rw [List.map_cons]
    unfold prsW
    dsimp only
    rw [prsS_map E g f l nd.2]
    dsimp only
    rw [g, dhas_map E, decide_eq_false nd.1]
    rfl
theorem dictS_go {κ β : Type} [DecidableEq κ] {e : κ -> W} (E : KEnc e) (g : ∀ a, scal (e a) = true) (f : β -> W) {l : List (κ × β)} (nd : (l.map Prod.fst).Nodup) (ll : l.length <= 100000) (h : MH) : wDictA [.lst (l.map fun q => W.tup [e q.1, f q.2])] h = some (dctW e f l) := by
  unfold wDictA
  have ns : wDictL [.lst (l.map fun q => W.tup [e q.1, f q.2])] h = some (dctW e f l) := by
    unfold wDictL
    dsimp only
    rw [show lenLe (l.map fun q => W.tup [e q.1, f q.2]).length = true by rw [List.length_map]; exact lenLe_of ll]
    dsimp only
    rw [prsS_map E g f _ nd]
  rw [ns]
def within {κ β : Type} [DecidableEq κ] [DecidableEq β] (l2 l : List (κ × β)) : Bool := l.all fun q => decide (look q.1 l2 = some q.2)
theorem wdgo_map {κ β : Type} [DecidableEq κ] [DecidableEq β] {e : κ -> W} {f : β -> W} {d : Nat} (E : KEnc e) (F : Enc d f) (hd : d <= 29) (l2 : List (κ × β)) : ∀ l : List (κ × β), wdgo ((l2.map Prod.fst).map e) ((l2.map Prod.snd).map f) ((l.map Prod.fst).map e) ((l.map Prod.snd).map f) = some (within l2 l)
  | [] => rfl
  | q :: l => by
    rw [List.map_cons, List.map_cons, List.map_cons, List.map_cons]
    unfold wdgo
    rw [keyFit_map E]
    dsimp only
    rw [dfind_map E f]
    have ih := wdgo_map E F hd l2 l
    show _ = some (decide (look q.1 l2 = some q.2) && within l2 l)
    cases lk : look q.1 l2 with
    | none =>
      dsimp only [Option.map]
      rw [ih]
      simp
    | some y =>
      dsimp only [Option.map]
      rw [F.eq 29 _ _ hd, ih]
      dsimp only
      congr 1
      by_cases z : q.2 = y
      · simp [z]
      · simp [z, Ne.symm z]
theorem within_perm {κ β : Type} [DecidableEq κ] [DecidableEq β] {l2 l : List (κ × β)} (nd : (l2.map Prod.fst).Nodup) (p : ∀ q ∈ l, q ∈ l2) : within l2 l = true :=
  List.all_eq_true.mpr fun q hq => decide_eq_true (look_of_mem nd (p q hq))
theorem cmp_dct {κ β : Type} [DecidableEq κ] [DecidableEq β] {e : κ -> W} {f : β -> W} {d : Nat} (E : KEnc e) (F : Enc d f) (hd : d <= 29) (neg : Bool) (l l2 : List (κ × β)) (h : MH) : wCmpB neg (dctW e f l) (dctW e f l2) h = some (.bl (xor neg (decide (l.length = l2.length) && within l2 l))) := by
  show wCmpD neg (dctW e f l) (dctW e f l2) h = _
  unfold wCmpD
  show (match Nat.beq ((l.map Prod.fst).map e).length ((l2.map Prod.fst).map e).length with
    | false => some (W.bl neg)
    | true => match wdgo ((l2.map Prod.fst).map e) ((l2.map Prod.snd).map f) ((l.map Prod.fst).map e) ((l.map Prod.snd).map f) with
      | some r => some (W.bl (xor neg r))
      | none => none) = _
  rw [wdgo_map E F hd]
  simp only [List.length_map]
  by_cases z : l.length = l2.length
  · rw [z, Nat.beq_refl]
    simp
  · rw [show Nat.beq l.length l2.length = false by cases q : Nat.beq l.length l2.length with | false => rfl | true => exact absurd (Nat.eq_of_beq_eq_true q) z]
    simp [z]
theorem deq_enc {α : Type} [DecidableEq α] {d : Nat} {e : α -> W} (E : Enc d e) (hd : d <= 30) (mq : Nat -> Option FM) (n : Nat) (a b : α) : deqP mq (n + 1) (e a) (e b) = some (decide (a = b)) := by
  unfold deqP
  rw [E.eq 30 a b hd]
structure DEnc {α : Type} [DecidableEq α] (e : α -> W) : Prop where
  df : ∀ a b, wDiff (e a) (e b) = !decide (a = b)
theorem denc_int : DEnc (fun i : Int => W.int i) := ⟨fun a b => rfl⟩
theorem denc_str : DEnc (fun i : Str => W.str i) := ⟨fun a b => by show (!strEq a b) = _; rw [strEq_eq]⟩
theorem wDiffs_map {α : Type} [DecidableEq α] {e : α -> W} (E : DEnc e) : ∀ l r : List α, wDiffs (l.map e) (r.map e) = !decide (l = r)
  | [], [] => by simp [wDiffs]
  | [], b :: r => by simp [wDiffs]
  | a :: l, [] => by simp [wDiffs]
  | a :: l, b :: r => by
    rw [List.map_cons, List.map_cons, wDiffs, E.df, wDiffs_map E l r]
    by_cases h1 : a = b <;> by_cases h2 : l = r <;> simp [h1, h2]
theorem denc_tup {α : Type} [DecidableEq α] {e : α -> W} (E : DEnc e) : DEnc (fun l : List α => W.tup (l.map e)) := ⟨fun a b => by
  show wDiffs _ _ = _
  exact wDiffs_map E a b⟩
theorem denc_pair {α β : Type} [DecidableEq α] [DecidableEq β] {e : α -> W} {f : β -> W} (E : DEnc e) (F : DEnc f) : DEnc (fun p : α × β => W.tup [e p.1, f p.2]) := ⟨fun a b => by
  show (wDiff (e a.1) (e b.1) || (wDiff (f a.2) (f b.2) || false)) = _
  rw [E.df, F.df]
  obtain ⟨a1, a2⟩ := a
  obtain ⟨b1, b2⟩ := b
  by_cases h1 : a1 = b1 <;> by_cases h2 : a2 = b2 <;> simp [h1, h2]⟩
theorem within_false {κ β : Type} [DecidableEq κ] [DecidableEq β] {l2 l : List (κ × β)} (nd : (l2.map Prod.fst).Nodup) (w : within l2 l = false) : l ≠ l2 := fun z => by
  subst z
  rw [within_perm nd fun _ h => h] at w
  cases w
theorem zipU : ∀ {κ β : Type} {l r : List (κ × β)}, l.map Prod.fst = r.map Prod.fst -> l.map Prod.snd = r.map Prod.snd -> l = r
  | _, _, [], [], _, _ => rfl
  | _, _, [], _ :: _, h, _ => by simp at h
  | _, _, _ :: _, [], h, _ => by simp at h
  | _, _, (a, b) :: l, (a2, b2) :: r, h1, h2 => by
    simp only [List.map_cons, List.cons.injEq] at h1 h2
    obtain ⟨rfl, h1⟩ := h1
    obtain ⟨rfl, h2⟩ := h2
    rw [zipU h1 h2]
theorem deq_dct {κ β : Type} [DecidableEq κ] [DecidableEq β] {e : κ -> W} {f : β -> W} {d : Nat} (E : KEnc e) (F : Enc d f) (hd : d <= 29) (DE : DEnc e) (DF : DEnc f) (mq : Nat -> Option FM) (n : Nat) {l l2 : List (κ × β)} (nd : (l2.map Prod.fst).Nodup) : deqP mq (n + 1) (dctW e f l) (dctW e f l2) = some (decide (l.length = l2.length) && within l2 l) := by
  unfold deqP
  show (match Nat.beq ((l.map Prod.fst).map e).length ((l2.map Prod.fst).map e).length with
    | false => some false
    | true => match wdgo ((l2.map Prod.fst).map e) ((l2.map Prod.snd).map f) ((l.map Prod.fst).map e) ((l.map Prod.snd).map f) with
      | some true => some true
      | some false => (match wDiffs ((l.map Prod.fst).map e) ((l2.map Prod.fst).map e) || wDiffs ((l.map Prod.snd).map f) ((l2.map Prod.snd).map f) with
        | true => some false
        | false => none)
      | none => none) = _
  rw [wdgo_map E F hd]
  simp only [List.length_map]
  by_cases z : l.length = l2.length
  · rw [z, Nat.beq_refl]
    cases w : within l2 l with
    | true => simp
    | false =>
      dsimp only
      rw [wDiffs_map DE, wDiffs_map DF]
      have ne := within_false nd w
      have : (!decide (l.map Prod.fst = l2.map Prod.fst) || !decide (l.map Prod.snd = l2.map Prod.snd)) = true := by
        by_cases h1 : l.map Prod.fst = l2.map Prod.fst
        · by_cases h2 : l.map Prod.snd = l2.map Prod.snd
          · exact absurd (zipU h1 h2) ne
          · simp [h2]
        · simp [h1]
      rw [this]
      simp
  · rw [show Nat.beq l.length l2.length = false by cases q : Nat.beq l.length l2.length with | false => rfl | true => exact absurd (Nat.eq_of_beq_eq_true q) z]
    simp [z]
theorem deqL_cons {f : W -> W -> Option Bool} {x y : W} {xs ys : List W} {a b : Bool} (e : f x y = some a) (e2 : a = true -> deqL f xs ys = some b) : deqL f (x :: xs) (y :: ys) = some (a && b) := by
  unfold deqL
  rw [e]
  cases a with
  | false => rfl
  | true => rw [Bool.true_and]; exact e2 rfl
end Mi
end
section
namespace PySem.W
open PySem PySem.Calls PyProof.Rows SeqAt
section
variable {M : Model} {A : Around} {E : Value -> Shared -> Prop} {s : Shared}
end
section
variable {prog : Program} {w : World} {A : Around} {E : Value -> Shared -> Prop} {s : Shared}
end
end PySem.W
end
section
namespace Mi
open PySem PySem.Spec PySem.W PyProof.Rows L2
variable {G : Kt} {X : Cx} {adr : Ad} {Y : WX}
end Mi
end
section
namespace Mi
open PySem PySem.Spec PyProof.Rows L2
variable {G : Kt} {X : Cx} {adr : Ad} {Y : WX}
def bare (T : Tie) (H : Hp) : Tie := ⟨fun _ => none, 0, T.hid.filter (ntB H), T.nm⟩
end Mi
end
section
namespace Mi
open PySem PySem.Spec PyProof.Rows L2
variable {G : Kt} {X : Cx} {adr : Ad} {Y : WX}
section
variable {T : Tie} {h : MH} {H : Hp} {P c : Addr} {ps : Array Value} {pos : Pos} {q : Str}
end
end Mi
end
section
namespace Mi
open PySem PySem.Spec PyProof.Rows L2 PySem.W
variable {G : Kt} {X : Cx} {adr : Ad} {Y : WX}
section
variable {ok : Addr -> Prop} {h h' : Heap} {H : Hp} {T : Tie} {P : Program} {wo : World}
end
section
variable {pins : List (Addr × Obj)} {σ : Sl} {H0 : Hp} {S it : Addr}
end
end Mi
end
section
namespace Mi
open PySem PySem.Spec PyProof.Rows L2
variable {G : Kt} {X : Cx} {adr : Ad} {Y : WX}
section
variable {P : Program} {w : World} {K : PySem.W.Frag} {mg : Str -> Option Value} {base : Heap}
end
def nmT (tb : List (Addr × Str)) (a : Addr) : Str := match tb.lookup a with
  | some q => q
  | none => ""
theorem nmT_at : ∀ {tb : List (Addr × Str)} {p : Addr × Str}, (tb.map (·.1)).Nodup -> p ∈ tb -> nmT tb p.1 = p.2
  | (a, q) :: r, p, nd, hp => by
    unfold nmT
    rw [List.lookup_cons]
    rcases List.mem_cons.mp hp with e | e
    · subst e; simp
    · have nd' : a ∉ r.map (·.1) /\ (r.map (·.1)).Nodup := List.nodup_cons.mp nd
      have ne : p.1 ≠ a := fun z => nd'.1 (by rw [<- z]; exact List.mem_map_of_mem e)
      have := nmT_at (tb := r) (p := p) nd'.2 e
      unfold nmT at this
      have nb : (p.1 == a) = false := by simpa using ne
      rw [nb]
      exact this
theorem start_okT {P : Program} {w : World} {K : PySem.W.Frag} {adr : Ad} {m : FM} {n : Nat} (nd : (adr.tb.map (·.1)).Nodup) (ev : ∀ ns : List Int, ns.length <= n -> okT (m [.scr ns] h0) = true) {H : Hp} {a : Addr} {ns : List Int} (hl : ns.length <= n) (hT : ∀ p ∈ adr.tb, H p.1 = some (.tbl #[])) (hS : SqL K H a (ns.map V.int)) :
    spM ⟨P, w, K, adr⟩ m [.ref a] H (fun v _ => v = .bl true) fun _ _ _ => False := by
  refine ⟨⟨fun _ => none, 0, adr.tb.map (·.1), nmT adr.tb⟩, [.scr ns], h0, ⟨⟨fun _ _ e => (nomatch e), fun _ _ _ e => (nomatch e), fun _ _ e => (nomatch e), fun _ _ e => (nomatch e), fun b hb => ?_⟩, rfl, fun _ _ e => (nomatch e), fun p hp => ?_⟩, Reps.cons ?_ Reps.nil, ?_⟩
  · obtain ⟨p, hp, rfl⟩ := List.mem_map.mp hb
    rw [hT p hp]; simp
  · exact ⟨List.mem_map_of_mem hp, nmT_at nd hp, #[], hT p hp, True.intro, fun pos cv hc => by
      have z : codeAmong pos [] = some cv := hc
      simp [codeAmong] at z⟩
  · unfold Rep
    refine ⟨a, rfl, ?_⟩
    rcases hS with r | r
    · refine .inl ⟨⟨fun _ e => (nomatch e), fun hb => ?_⟩, r⟩
      obtain ⟨p, hp, e⟩ := List.mem_map.mp hb
      have := hT p hp
      rw [e] at this
      rcases r with r | ⟨o, r⟩ <;> rw [r] at this <;> cases this
    · exact .inr r
  · have e := ev ns hl
    cases q : m [.scr ns] h0 with
    | ok w' h' =>
      rw [q] at e
      cases w' with
      | bl b =>
        cases b with
        | true =>
          intro T' H' v _ _ rp
          unfold Rep at rp
          exact rp
        | false => cases e
      | _ => cases e
    | exc _ _ => rw [q] at e; cases e
    | stuck => rw [q] at e; cases e
theorem end_ofT {l : PySem.W.OpenLaw} {n k : Nat} {q : Program} {loose : List Str} {XP : (Str -> Option Value) -> Heap -> Prop} {YP : World -> Heap -> Prop} {d : DefRec} {CX : World -> CXT} {x : Str}
    (h1 : l.most = some n) (h2 : n <= sizeLine) (h3 : d.params.defaults = []) (rm : Room k callerA)
    (F : ∀ (w : World) (mg : Str -> Option Value) (fa : Addr) (h : Heap), YP w h -> h.Ns mainGlobals mg -> mg d.name = some (.ref fa) ->
      ∃ (K : PySem.W.Frag) (fd : FuncData) (cs : List (Addr × Addr)) (sp : Sp), K.In h /\ (∀ p ∈ cs, h.get? p.2 = some { cls := .none, data := .fields #[] }) /\ (∀ p ∈ cs, K.lookup p.2 = none) /\ (∀ p ∈ cs, PySem.W.CodeHd h p.1 p.2) /\ (∀ (s : Shared) (u : Value), BindsTo s fd ⟨[u], []⟩ [(x, u)]) /\
        (∀ (H : Hp) (a : Addr) (ns : List Int), ns.length <= n -> (∀ p ∈ cs, H p.2 = some (.tbl #[])) -> SqL K H a (ns.map V.int) -> sp [.ref a] H (fun v _ => v = .bl true) fun _ _ _ => False) /\
        ∀ base : Heap, K.In base -> base.Ns mainGlobals mg -> (∀ p ∈ cs, LamX.TabB base mg p.1 p.2) -> FnOk l.prog w K mg base (CX w) k fa fd [x] sp)
    (out : ∀ (w : World) (H : Hp) (s : Shared) (e : Value) (s' : Shared), CX w [] H s (fun _ _ _ => False) e s' -> False) :
    PySem.W.WalkO q loose XP YP l.row.toRowW d [] (fun f vs => PySem.call f vs) := by
  refine Att.attach_call h1 h3 fun w s₀ s₁ mg mb fa o pm cd doc a vs ns G Y ho hd hcd hmg hobj hints hlen hg => ?_
  obtain ⟨K, fd, cs, sp, KX, hT, nT, C, b, hs, ok⟩ := F w mg fa _ Y G.T.g hmg
  exact LamX.law_callTs KX G.T.g G.T.b G.T.builtins G.T.nolimit hg hT nT C G.T.bmain hobj hints (Nat.le_trans hlen h2) rm ok b (fun H hH hS => hs H a ns hlen hH hS) fun H e s' => out w H s₁ e s'
inductive Nd where
  | s (x : Stmt)
  | e (x : Expr)
def kids : Nd -> List Nd
  | .s (.Return (some e) _) => [.e e]
  | .s (.Assign _ v _) => [.e v]
  | .s (.Expr e _) => [.e e]
  | .s (.If t b o _) => .e t :: (b.map .s ++ o.map .s)
  | .s (.For _ i b _ _) => .e i :: b.map .s
  | .s (.While t b _ _) => .e t :: b.map .s
  | .s (.Try b _ _ _ _) => b.map .s
  | .e (.Call f as ks _) => .e f :: (as.map .e ++ ks.map fun k => .e k.value)
  | .e (.IfExp t b o _) => [.e t, .e b, .e o]
  | .e (.List es _) => es.map .e
  | .e (.Tuple es _ _) => es.map .e
  | .e (.ListComp el gs _ _) => .e el :: gs.map fun g => .e g.iter
  | .e (.Compare l _ cs _) => .e l :: cs.map .e
  | .e (.BoolOp _ vs _) => vs.map .e
  | .e (.UnaryOp _ x _) => [.e x]
  | .e (.BinOp a _ b _) => [.e a, .e b]
  | .e (.Subscript a b _) => [.e a, .e b]
  | .e (.Attribute a _ _) => [.e a]
  | _ => []
def walkN : Nd -> List Nat -> Nd
  | n, [] => n
  | n, i :: r => walkN ((kids n).getD i n) r
def ldOf (qual : Str) (b : List Stmt) (i : Nat) (path : List Nat) (fr : List Str) : Ld := match walkN (.s (b.getD i (.Pass ⟨0, 0, 0, 0⟩))) path with
  | .e (.Lambda p b s _) => ⟨qual ++ ".<locals>." ++ "<lambda>", p, b, s, fr⟩
  | _ => ⟨"", ⟨[], [], none, [], [], none, []⟩, .Constant .none 0 ⟨0, 0, 0, 0⟩, ⟨.function, [], false, false, []⟩, fr⟩
structure AdP where
  en : List (Str × Addr)
  cv : Addr -> Option V
  b : Bool
end Mi
end
section
namespace Mi
open PySem PySem.Spec PyProof.Rows L2
variable {G : Kt} {X : Cx} {adr : Ad} {Y : WX}
end Mi
end
section
namespace Mi
open PySem PySem.Spec PyProof.Rows L2
variable {G : Kt} {X : Cx} {adr : Ad} {Y : WX}
section
variable {pins : List (Addr × Obj)} {σ : L2.St} {H : Hp} {s : Shared}
end
section
variable {i L : Nat} {x : Str} {tbl : Nat -> Option (List W -> FM)} {p pos : Pos} {e : Expr} {es : List Expr} {as : AM}
end
end Mi
namespace Mi
open PySem PySem.Spec PyProof.Rows L2
variable {G : Kt} {X : Cx} {adr : Ad} {Y : WX}
def CvP (X : Cx) (σ : Sl) (c : Addr) (v : V) : Prop := ∃ (y : Str) (i : Nat), X.env.cells.lookup y = some c /\ X.N[i]? = some y /\ σ[i]? = some (some v) /\ (X.env.scope.names.lookup y = some .cell \/ X.env.scope.names.lookup y = some .free)
noncomputable def cvOf (X : Cx) (σ : Sl) : Addr -> Option V := fun c => by
  classical
  exact if h : ∃ v, CvP X σ c v then some (Classical.choose h) else none
section
variable {pins : List (Addr × Obj)} {σ : L2.St} {H : Hp} {s : Shared} {T : Tie} {h : MH} {me : Me}
theorem CvP.uniq (nd : X.N.Nodup) (inj : ∀ x y c, X.env.cells.lookup x = some c -> X.env.cells.lookup y = some c -> x = y) {c : Addr} {v v' : V} (p : CvP X σ c v) (p' : CvP X σ c v') : v = v' := by
  obtain ⟨y, i, h1, h2, h3, _⟩ := p
  obtain ⟨y', i', h1', h2', h3', _⟩ := p'
  have ey := inj _ _ _ h1 h1'
  subst ey
  have l1 := (List.getElem?_eq_some_iff.mp h2).1
  have ei : i = i' := (List.getElem?_inj l1 nd).mp (h2.trans h2'.symm)
  subst ei
  rw [h3] at h3'
  cases h3'
  rfl
theorem cvOf_eq (nd : X.N.Nodup) (inj : ∀ x y c, X.env.cells.lookup x = some c -> X.env.cells.lookup y = some c -> x = y) {c : Addr} {v : V} (p : CvP X σ c v) : cvOf X σ c = some v := by
  unfold cvOf
  rw [dif_pos ⟨v, p⟩]
  exact congrArg some ((Classical.choose_spec (⟨v, p⟩ : ∃ v, CvP X σ c v)).uniq nd inj p)
def capW : List Nat -> Me -> Option (List W)
  | [], _ => some []
  | j :: r, me => match nth me j with
    | some w => match capW r me with
      | some ws => some (w :: ws)
      | none => none
    | none => none
theorem capW_at (hE : Erel G T me σ H) : ∀ {js : List Nat} {cs : List W}, capW js me = some cs -> ∃ vs : List V, js.map (NdefX.slotAt σ) = vs.map some /\ Reps G T H cs vs
  | [], cs, e => by cases e; exact ⟨[], rfl, Reps.nil⟩
  | j :: r, cs, e => by
    unfold capW at e
    cases ej : nth me j with
    | none => rw [ej] at e; cases e
    | some w =>
      rw [ej] at e
      dsimp only at e
      cases er : capW r me with
      | none => rw [er] at e; cases e
      | some ws =>
        rw [er] at e
        cases e
        obtain ⟨v, ev, rp⟩ := hE.2 j _ ej
        obtain ⟨vs, e1, e2⟩ := capW_at hE er
        exact ⟨v :: vs, by rw [List.map_cons, List.map_cons, e1, NdefX.slotAt_of ev], Reps.cons rp e2⟩
structure CapT (X : Cx) (adr : Ad) (cap : Nat -> Option (List Nat)) : Prop where
  at_ : ∀ k js, cap k = some js -> (∀ y ∈ (adr.lm k).scope.names, y.2 = .free -> y.1 ∈ (adr.lm k).fr) /\ (X.Ok -> NdefX.Caps X (cloFrom X.env.cells (adr.lm k).scope.names []) (adr.lm k).fr js)
mutual
def lamIn (cap : Nat -> Option (List Nat)) (me : Me) : W -> Option W
  | .lamO k => match cap k with
    | some js => match capW js me with
      | some cs => match noLams cs with
        | true => some (.lam k cs)
        | false => none
      | none => none
    | none => none
  | .lst ws => match lamIns cap me ws with
    | some ws' => some (.lst ws')
    | none => none
  | w => match noLam w with
    | true => some w
    | false => none
def lamIns (cap : Nat -> Option (List Nat)) (me : Me) : List W -> Option (List W)
  | [] => some []
  | x :: r => match lamIn cap me x with
    | some y => match lamIns cap me r with
      | some s => some (y :: s)
      | none => none
    | none => none
end
theorem cv_is (I : Inv X pins σ H s) (nd : X.N.Nodup) (hen : adr.en = X.env.cells) {k : Nat} {js : List Nat} {vs : List V} (hf : ∀ y ∈ (adr.lm k).scope.names, y.2 = .free -> y.1 ∈ (adr.lm k).fr) (cp : NdefX.Caps X (cloFrom X.env.cells (adr.lm k).scope.names []) (adr.lm k).fr js) (e : js.map (NdefX.slotAt σ) = vs.map some) :
    CvIs { adr with cv := cvOf X σ } (adr.lm k) vs := by
  unfold CvIs
  dsimp only
  rw [hen]
  have l1 : js.length = (adr.lm k).fr.length := by
    have q := congrArg List.length cp.at_
    rw [List.length_map, List.length_map] at q
    exact q
  have l2 : js.length = vs.length := by
    have q := congrArg List.length e
    rw [List.length_map, List.length_map] at q
    exact q
  have inj := I.ok.inj
  have key : ∀ (i : Nat) (y : Str) (v : V), (adr.lm k).fr[i]? = some y -> vs[i]? = some v -> ∃ c, (cloFrom X.env.cells (adr.lm k).scope.names []).lookup y = some c /\ CvP X σ c v := fun i y v e1 e2 => by
    have hk := cp.kin y (List.mem_of_getElem? e1)
    obtain ⟨a, ha⟩ : ∃ a, X.env.cells.lookup y = some a := hk.elim (fun z => I.ok.has y (.inl z)) fun z => I.ok.has y (.inr z)
    refine ⟨a, cp.sup y (List.mem_of_getElem? e1) a ha, y, ?_⟩
    have hj : ∃ j, js[i]? = some j := ⟨_, List.getElem?_eq_getElem (by rw [l1]; exact (List.getElem?_eq_some_iff.mp e1).1)⟩
    obtain ⟨j, hj⟩ := hj
    have z1 : (js.map fun j => X.N[j]?)[i]? = some (some y) := by rw [cp.at_, List.getElem?_map, e1]; rfl
    rw [List.getElem?_map, hj] at z1
    have z2 : (js.map (NdefX.slotAt σ))[i]? = some (some v) := by rw [e, List.getElem?_map, e2]; rfl
    rw [List.getElem?_map, hj] at z2
    exact ⟨j, ha, Option.some.inj z1, NdefX.slotAt_some (Option.some.inj z2), hk⟩
  refine ⟨by rw [<- l2, l1], fun i y v e1 e2 => ?_, fun y c ec => ?_, fun x y c e1 e2 => inj x y c (cp.sub x c e1) (cp.sub y c e2)⟩
  · obtain ⟨c, hc, p⟩ := key i y v e1 e2
    exact ⟨c, hc, cvOf_eq nd inj p⟩
  · have hy : y ∈ (adr.lm k).fr := by
      rcases cloFrom_mem (PySem.mem_of_lookup ec) with hm | ⟨h1, _⟩
      · cases hm
      · exact hf _ h1 rfl
    obtain ⟨i, hi⟩ := List.mem_iff_getElem?.mp hy
    have iv : i < vs.length := by rw [<- l2, l1]; exact (List.getElem?_eq_some_iff.mp hi).1
    obtain ⟨c', hc', p⟩ := key i y vs[i] hi (List.getElem?_eq_getElem iv)
    rw [ec] at hc'
    cases hc'
    exact ⟨_, cvOf_eq nd inj p⟩
theorem sim_cv {cv : Addr -> Option V} : Sim (kt X adr) ⟨X.prog, X.w, X.K, { adr with cv := cv }⟩ /\ Sim ⟨X.prog, X.w, X.K, { adr with cv := cv }⟩ (kt X adr) := ⟨⟨rfl, rfl, rfl⟩, ⟨rfl, rfl, rfl⟩⟩
section
variable {cap : Nat -> Option (List Nat)} (I : Inv X pins σ H s) (nd : X.N.Nodup) (hen : adr.en = X.env.cells) (CT : CapT X adr cap) (hE : Erel (kt X adr) T me σ H)
include I nd hen CT hE
mutual
theorem lamIn_rep : ∀ (w w' : W) (v : V), lamIn cap me w = some w' -> Rep (kt X adr) T H w v -> Rep ⟨X.prog, X.w, X.K, { adr with cv := cvOf X σ }⟩ T H w' v
  | .lamO k, w', v, e, r => by
    unfold lamIn at e
    cases ec : cap k with
    | none => rw [ec] at e; cases e
    | some js =>
      rw [ec] at e
      dsimp only at e
      cases ew : capW js me with
      | none => rw [ew] at e; cases e
      | some cs =>
        rw [ew] at e
        dsimp only at e
        cases en : noLams cs with
        | false => rw [en] at e; cases e
        | true =>
          rw [en] at e
          cases e
          obtain ⟨hf, cp⟩ := CT.at_ k js ec
          obtain ⟨vs, e1, rc⟩ := capW_at hE ew
          unfold Rep at r ⊢
          obtain ⟨f, c, pm, ctv, rfl, ff, ho, fc, hc⟩ := r
          exact ⟨f, c, pm, ctv, vs, rfl, ff, ho, fc, hc, cv_is I nd hen hf (cp I.ok) e1, reps_sim sim_cv.1 _ _ (.inr en) rc⟩
  | .lst ws, w', v, e, r => by
    unfold lamIn at e
    cases el : lamIns cap me ws with
    | none => rw [el] at e; cases e
    | some ws' =>
      rw [el] at e
      cases e
      unfold Rep at r ⊢
      obtain ⟨a, vs, rfl, f, q, r⟩ := r
      exact ⟨a, vs, rfl, f, q, lamIns_rep ws ws' vs el r⟩
  | .non, w', v, e, r => by cases e; exact r
  | .bl _, w', v, e, r => by cases e; exact r
  | .int _, w', v, e, r => by cases e; exact r
  | .str _, w', v, e, r => by cases e; exact r
  | .ref _, w', v, e, r => by cases e; exact r
  | .ty _, w', v, e, r => by cases e; exact r
  | .cl _, w', v, e, r => by cases e; exact r
  | .scr _, w', v, e, r => by cases e; exact r
  | .kt0, w', v, e, r => by cases e; exact r
  | .lam _ _, w', v, e, r => by cases e
  | .tup ws, w', v, e, r => by
    unfold lamIn at e
    split at e
    · rename_i n
      cases e
      exact rep_sim sim_cv.1 _ _ (.inr n) r
    · cases e
  | .dct ks vs, w', v, e, r => by
    unfold lamIn at e
    split at e
    · rename_i n
      cases e
      exact rep_sim sim_cv.1 _ _ (.inr n) r
    · cases e
  | .ins _ _ _, w', v, e, r => by
    unfold lamIn at e
    split at e
    · rename_i n
      cases e
      exact rep_sim sim_cv.1 _ _ (.inr n) r
    · cases e
  | .exn _ _, w', v, e, r => by
    unfold lamIn at e
    split at e
    · rename_i n
      cases e
      exact rep_sim sim_cv.1 _ _ (.inr n) r
    · cases e
  | .dvs _ _, w', v, e, r => by
    unfold lamIn at e
    split at e
    · rename_i n
      cases e
      exact rep_sim sim_cv.1 _ _ (.inr n) r
    · cases e
theorem lamIns_rep : ∀ (w w' : List W) (v : List V), lamIns cap me w = some w' -> Reps (kt X adr) T H w v -> Reps ⟨X.prog, X.w, X.K, { adr with cv := cvOf X σ }⟩ T H w' v
  | [], w', v, e, r => by
    unfold lamIns at e
    cases e
    unfold Reps at r ⊢
    exact r
  | x :: ws, w', v, e, r => by
    unfold lamIns at e
    cases ex : lamIn cap me x with
    | none => rw [ex] at e; cases e
    | some y =>
      rw [ex] at e
      dsimp only at e
      cases er : lamIns cap me ws with
      | none => rw [er] at e; cases e
      | some s' =>
        rw [er] at e
        cases e
        unfold Reps at r ⊢
        obtain ⟨u, t, rfl, r1, r2⟩ := r
        exact ⟨u, t, rfl, lamIn_rep x y u ex r1, lamIns_rep ws s' t er r2⟩
end
end
end
section
variable {k : Nat} {f : Addr} {mf : FM} {dws : List W} {x : Str} {p pos : Pos} {e : Expr} {es : List Expr} {as : AM} {cap : Nat -> Option (List Nat)}
end
end Mi
end
section
namespace Mi
open PySem PySem.Spec PyProof.Rows L2
variable {G : Kt} {X : Cx} {adr : Ad} {Y : WX}
section
variable {k : Nat} {f : Addr} {mf : FM} {mq : Nat -> Option FM} {pins : List (Addr × Obj)} {σ : L2.St} {H : Hp} {s : Shared} {T : Tie} {h : MH} {ws : List W} {us : List Value} {vs : List V} {A : Around} {Q : VK} {E : XK}
end
end Mi
namespace Mi
open PySem PySem.Spec PyProof.Rows L2
variable {G : Kt} {X : Cx} {adr : Ad} {Y : WX}
section
variable {k : Nat} {mq : Nat -> Option FM} {x : Str} {p pos : Pos} {e : Expr} {m : EM}
end
section
variable {k : Nat} {f : Addr} {fd : FuncData} {ps : List Str} {mf : FG} {nm m : Str} {p2 pos pos' apos : Pos} {o : Expr} {mo : EM} {c : Nat} {pl : Sem Bool}
end
end Mi
end
section
namespace Mi
open PySem PySem.Spec PyProof.Rows L2
variable {G : Kt} {X : Cx} {adr : Ad} {Y : WX}
end Mi
namespace Mi
open PySem PySem.Spec PyProof.Rows L2
variable {G : Kt} {X : Cx} {adr : Ad} {Y : WX}
section
variable {P : Program} {w : World} {K : PySem.W.Frag} {mg : Str -> Option Value} {base : Heap}
end
section
variable {k : Nat} {f : Addr} {mf : FG} {nm m : Str} {p2 pos pos' apos : Pos} {o : Expr} {mo : EM} {c : Nat} {pl : Sem Bool}
end
end Mi
end
section
namespace Mi
open PySem PySem.Spec PyProof.Rows L2
section
variable {n : Nat} {ns : List Int} {by_ : Int} {S G : Nat -> MH}
end
section
variable {α β : Type} {enc : α -> W} {enc2 f : β -> W} {ys : α -> List β} {src : AM} {g : GM} {src1 : AM} {g1 : GM} {e : EM} {vs vs1 : List Nat} {me : Me} {h : MH}
end
variable {G : Kt} {X : Cx} {adr : Ad} {Y : WX}
end Mi
end
section
namespace Mi
open PySem PySem.Spec PyProof.Rows L2
variable {G : Kt} {X : Cx} {adr : Ad} {Y : WX}
def isX (n : Nat) : Bool := Nat.beq n 1000 || Nat.beq n 1001
mutual
def noX : W -> Bool
  | .non => true
  | .bl _ => true
  | .int _ => true
  | .str _ => true
  | .tup ws => noXs ws
  | .lst ws => noXs ws
  | .dct ks vs => noXs ks && noXs vs
  | .ins c _ fv => !isX c && noXs fv
  | .ref _ => true
  | .dvs ks vs => noXs ks && noXs vs
  | .ty _ => true
  | .cl c => !isX c
  | .scr _ => true
  | .kt0 => true
  | .lamO _ => true
  | .lam _ cs => noXs cs
  | .exn _ _ => false
def noXs : List W -> Bool
  | [] => true
  | x :: r => noX x && noXs r
end
structure SimX (G G' : Kt) : Prop where
  P : G'.P = G.P
  w : G'.w = G.w
  K : G'.K = G.K
  at_ : ∀ n, isX n = false -> G'.adr.at_ n = G.adr.at_ n
  lm : G'.adr.lm = G.adr.lm
  en : G'.adr.en = G.adr.en
  cv : G'.adr.cv = G.adr.cv
  tb : G'.adr.tb = G.adr.tb
section
variable {G G' : Kt} {T : Tie} {H : Hp}
mutual
theorem rep_simX (g : SimX G G') : ∀ (w : W) (v : V), noX w = true -> Rep G T H w v -> Rep G' T H w v
  | .non, v, _, h => by unfold Rep at h ⊢; exact h
  | .bl _, v, _, h => by unfold Rep at h ⊢; exact h
  | .int _, v, _, h => by unfold Rep at h ⊢; exact h
  | .str _, v, _, h => by unfold Rep at h ⊢; exact h
  | .tup ws, v, n, h => by
    unfold noX at n
    unfold Rep at h ⊢
    obtain ⟨a, vs, e, f, q, r⟩ := h
    exact ⟨a, vs, e, f, q, reps_simX g ws vs n r⟩
  | .lst ws, v, n, h => by
    unfold noX at n
    unfold Rep at h ⊢
    obtain ⟨a, vs, e, f, q, r⟩ := h
    exact ⟨a, vs, e, f, q, reps_simX g ws vs n r⟩
  | .dct ks vs, v, n, h => by
    unfold noX at n
    obtain ⟨n1, n2⟩ := Bool.and_eq_true_iff.mp n
    unfold Rep at h ⊢
    rw [g.w]
    obtain ⟨a, o, kv, vv, e, f, sm, ko, q, d, r1, r2⟩ := h
    exact ⟨a, o, kv, vv, e, f, sm, ko, q, d, reps_simX g ks kv n1 r1, reps_simX g vs vv n2 r2⟩
  | .ins c fn fv, v, n, h => by
    unfold noX at n
    obtain ⟨n1, n2⟩ := Bool.and_eq_true_iff.mp n
    unfold Rep at h ⊢
    obtain ⟨a, dx, vv, e, f, f2, q, q2, l, r⟩ := h
    exact ⟨a, dx, vv, e, f, f2, by rw [g.at_ c (by simpa using n1)]; exact q, q2, l, reps_simX g fv vv n2 r⟩
  | .ref _, v, _, h => by unfold Rep at h ⊢; exact h
  | .ty _, v, _, h => by unfold Rep at h ⊢; exact h
  | .cl c, v, n, h => by
    unfold noX at n
    unfold Rep at h ⊢
    rw [g.at_ c (by simpa using n)]
    exact h
  | .kt0, v, _, h => by unfold Rep at h ⊢; rw [g.K]; exact h
  | .scr ns, v, _, h => by unfold Rep at h ⊢; rw [g.K]; exact h
  | .lamO k, v, _, h => by
    unfold Rep at h ⊢
    rw [g.lm, g.en]
    exact h
  | .lam k cs, v, n, h => by
    unfold noX at n
    unfold Rep at h ⊢
    obtain ⟨f, c, pm, ctv, vs, e, ff, q, fc, qc, cv, r⟩ := h
    have r' := reps_simX g cs vs n r
    unfold CvIs at cv ⊢
    rw [g.lm, g.en, g.cv]
    exact ⟨f, c, pm, ctv, vs, e, ff, q, fc, qc, cv, r'⟩
  | .dvs ks vs, v, n, h => by
    unfold noX at n
    obtain ⟨n1, n2⟩ := Bool.and_eq_true_iff.mp n
    unfold Rep at h ⊢
    rw [g.w]
    obtain ⟨b, a, o, kv, vv, e, fb, qb, f, sm, ko, q, d, r1, r2⟩ := h
    exact ⟨b, a, o, kv, vv, e, fb, qb, f, sm, ko, q, d, reps_simX g ks kv n1 r1, reps_simX g vs vv n2 r2⟩
theorem reps_simX (g : SimX G G') : ∀ (w : List W) (v : List V), noXs w = true -> Reps G T H w v -> Reps G' T H w v
  | [], v, _, h => by unfold Reps at h ⊢; exact h
  | y :: r, v, n, h => by
    unfold noXs at n
    obtain ⟨n1, n2⟩ := Bool.and_eq_true_iff.mp n
    unfold Reps at h ⊢
    obtain ⟨u, s, e, h1, h2⟩ := h
    exact ⟨u, s, e, rep_simX g y u n1 h1, reps_simX g r s n2 h2⟩
end
end
end Mi
namespace Mi
open PySem PySem.Spec PyProof.Rows L2
variable {G : Kt} {X : Cx} {adr : Ad} {Y : WX}
end Mi
end
section
namespace PySem.W
open PySem PySem.Spec PySem.Calls PyProof.Rows
section
variable {prog : Program} {w : World} {A : Around} {E : Value -> Shared -> Prop} {s : Shared} {K : Frag} {x D : Addr} {ox : Obj}
end
end PySem.W
namespace Mi
open PySem PySem.Spec PyProof.Rows L2
variable {X : Cx} {adr : Ad} {Y : WX}
end Mi
end
section
namespace Mi
open PySem PySem.Spec PySem.Calls PyProof.Rows
section
open PySem.W
variable {prog : Program} {w : World} {A : Around} {E : Value -> Shared -> Prop} {h : Heap} {g : Array GenState} {d : Drawn} {t : Nat} {os : OsState}
end
end Mi
namespace Mi
open PySem PySem.Spec PySem.Calls PyProof.Rows
section
open PySem.W
variable {prog : Program} {w : World} {A : Around} {E : Value -> Shared -> Prop} {s : Shared} {K : Frag}
end
end Mi
namespace Mi
open PySem PySem.Spec PySem.Calls PyProof.Rows
section
open PySem.W
end
end Mi
namespace Mi
open PySem PySem.Spec PySem.Calls PyProof.Rows
section
open PySem.W
end
end Mi
namespace Mi
open PySem PySem.Spec PyProof.Rows L2
variable {X : Cx} {adr : Ad} {Y : WX}
end Mi
end
section
namespace Mi
open PySem PySem.Spec PyProof.Rows L2 GenW
section
variable {X : Cx} {W : WX} {E : XK} {s' : Shared}
end
section
variable {P : Program} {w : World} {K : PySem.W.Frag} {mg : Str -> Option Value} {base : Heap} {N : List Str} {qual : Str} {scope : Scope} {f : Addr} {cd : Value} {A : Around} {outer : List Env} {s : Shared} {H : Hp} {E : XK} {pn : List (Addr × Obj)}
end
section
variable {X : Cx} {st : Stmt} {rest : List Stmt}
end
end Mi
namespace Mi
open PySem PySem.Spec PyProof.Rows L2 GenW
variable {G : Kt} {X : Cx} {adr : Ad} {Y : WX}
section
variable {k : Nat} {f : Addr} {mf : FG} {dws : List W} {x : Str} {p p2 pos pos' : Pos} {e : Expr} {es : List Expr} {as : AM} {ns : List Nat}
end
end Mi
end
section
namespace Mi
open PySem PySem.Spec PyProof.Rows L2
section
variable {X : Cx} {pins : List (Addr × Obj)} {σ : L2.St} {elt tg iter : Expr} {ifs : List Expr} {sc : Scope} {own : List (Str × Nat)} {pos : Pos} {g : TG} {tt : TT} {te : TE}
end
end Mi
namespace Mi
open PySem PySem.Spec PyProof.Rows L2
variable {X : Cx} {adr : Ad} {Y : WX}
end Mi
end
section
namespace Mi
open PySem PySem.Spec PyProof.Rows L2
variable {G : Kt} {X : Cx} {adr : Ad} {Y : WX}
end Mi
end
section
namespace Mi
open PySem PySem.Spec PyProof.Rows L2
variable {G : Kt} {X : Cx} {adr : Ad} {Y : WX}
mutual
def noMut (k : Nat) : W -> Bool
  | .non => true
  | .bl _ => true
  | .int _ => true
  | .str _ => true
  | .tup ws => noMuts k ws
  | .ins _ _ fv => noMuts k fv
  | .ref m => Nat.ble k m
  | .ty _ => true
  | .cl _ => true
  | _ => false
def noMuts (k : Nat) : List W -> Bool
  | [] => true
  | x :: r => noMut k x && noMuts k r
end
abbrev Tie.at' (T : Tie) (n : Nat) (a : Addr) : Tie := { T with ρ := fun m => if m = n then some a else T.ρ m }
section
variable {T : Tie} {H : Hp} {n k : Nat} {a : Addr} {ho : HO} (ha : H a = some ho) (nt : ∀ xs, ho ≠ .tup xs) (ni : ∀ c dx fs, ho ≠ .ins c dx fs) (no : ∀ b, ho ≠ .own b) (hk : n < k)
include ha nt ni no hk
theorem fz_at {b : Addr} {o : HO} (f : Fz T b) (hb : H b = some o) (ne : o ≠ ho) : Fz (T.at' n a) b := ⟨fun m e => by
  by_cases z : m = n
  · have e' : (if m = n then some a else T.ρ m) = some b := e
    rw [if_pos z] at e'
    cases e'
    rw [ha] at hb
    exact ne (Option.some.inj hb).symm
  · have e' : (if m = n then some a else T.ρ m) = some b := e
    rw [if_neg z] at e'
    exact f.own m e', f.hid⟩
mutual
theorem rep_at : ∀ (w : W) (v : V), noMut k w = true -> Rep G T H w v -> Rep G (T.at' n a) H w v
  | .non, v, _, h => h
  | .bl _, v, _, h => h
  | .int _, v, _, h => h
  | .str _, v, _, h => h
  | .tup ws, v, q, h => by
    unfold noMut at q
    unfold Rep at h ⊢
    obtain ⟨b, vs, e, f, hb, r⟩ := h
    exact ⟨b, vs, e, fz_at ha nt ni no hk f hb (fun z => nt _ z.symm), hb, reps_at ws vs q r⟩
  | .ins c fn fv, v, q, h => by
    unfold noMut at q
    unfold Rep at h ⊢
    obtain ⟨b, dx, vv, e, f, f2, hb, hd, l, r⟩ := h
    exact ⟨b, dx, vv, e, fz_at ha nt ni no hk f hb (fun z => ni _ _ _ z.symm), fz_at ha nt ni no hk f2 hd (fun z => no _ z.symm), hb, hd, l, reps_at fv vv q r⟩
  | .ref m, v, q, h => by
    unfold noMut at q
    unfold Rep at h ⊢
    have le : k <= m := Nat.le_of_ble_eq_true q
    refine ⟨h.1, fun b e => h.2 b ?_⟩
    have e' : (if m = n then some a else T.ρ m) = some b := e
    rw [if_neg (by omega)] at e'
    exact e'
  | .ty _, v, _, h => by unfold Rep at h ⊢; exact h
  | .cl _, v, _, h => by unfold Rep at h ⊢; exact h
  | .lst _, v, q, _ => by unfold noMut at q; cases q
  | .dct _ _, v, q, _ => by unfold noMut at q; cases q
  | .dvs _ _, v, q, _ => by unfold noMut at q; cases q
  | .scr _, v, q, _ => by unfold noMut at q; cases q
  | .kt0, v, q, _ => by unfold noMut at q; cases q
  | .lamO _, v, q, _ => by unfold noMut at q; cases q
  | .lam _ _, v, q, _ => by unfold noMut at q; cases q
  | .exn _ _, v, q, _ => by unfold noMut at q; cases q
theorem reps_at : ∀ (w : List W) (v : List V), noMuts k w = true -> Reps G T H w v -> Reps G (T.at' n a) H w v
  | [], v, _, h => by unfold Reps at h ⊢; exact h
  | y :: r, v, q, h => by
    unfold noMuts at q
    obtain ⟨q1, q2⟩ := Bool.and_eq_true_iff.mp q
    unfold Reps at h ⊢
    obtain ⟨u, s, e, h1, h2⟩ := h
    exact ⟨u, s, e, rep_at y u q1 h1, reps_at r s q2 h2⟩
end
end
end Mi
end
section
namespace Mi
open PySem PySem.Spec PyProof.Rows L2
variable {X : Cx} {adr : Ad} {Y : WX}
end Mi
namespace Mi
open PySem PySem.Spec PyProof.Rows L2
variable {G : Kt} {X : Cx} {adr : Ad} {Y : WX}
end Mi
namespace Mi
open PySem PySem.Spec PyProof.Rows L2
variable {X : Cx} {adr : Ad} {Y : WX} {k : Nat} {mq : Nat -> Option FM}
end Mi
end
section
namespace Mi
open PySem PySem.Spec PyProof.Rows L2 GenW
section
variable {X : Cx} {st : Stmt} {rest : List Stmt}
end
end Mi
namespace Mi
open PySem PySem.Spec PyProof.Rows L2 GenW
variable {P : Program} {w : World} {K : PySem.W.Frag} {mg : Str -> Option Value} {base : Heap}
end Mi
namespace Mi
open PySem PySem.Spec PyProof.Rows L2 GenW
variable {G : Kt} {X : Cx} {adr : Ad} {Y : WX}
end Mi
namespace Mi
open PySem PySem.Spec PyProof.Rows L2 GenW
variable {X : Cx} {adr : Ad} {Y : WX}
end Mi
namespace Mi
open PySem PySem.Spec PyProof.Rows L2
end Mi
end
section
namespace Mi
open PySem PySem.Spec PyProof.Rows L2 PySem.W
variable {G : Kt} {X : Cx} {adr : Ad} {Y : WX}
abbrev FB := List W -> MH -> Option O
section
variable {x : Str} {id : String} {F : FB} {e : Expr} {es : List Expr} {as : AM} {p pos : Pos}
end
end Mi
end
section
namespace Mi
open PySem PySem.Spec PyProof.Rows L2
variable {G : Kt} {X : Cx} {adr : Ad} {Y : WX}
end Mi
end
section
namespace Mi
open PySem PySem.Spec PyProof.Rows L2 HotX L2H
section
variable {prog : Program} {w : World} {A : Around} {E : Value -> Shared -> Prop} {s : Shared} {x1 : Addr}
end
section
variable {X : Cx} {pins : List (Addr × Obj)} {σ : L2.St} {elt tg iter : Expr} {ifs : List Expr} {sc : Scope} {own : List (Str × Nat)} {pos : Pos} {g : TG} {tt : TT} {te : TE}
end
section
variable {X : Cx} {adr : Ad} {Y : WX}
end
end Mi
end
section
namespace Mi
open PySem PySem.Spec PyProof.Rows L2
section
variable {X : Cx} {x n : Str} {c : Value} {i : Nat} {body suite : List Stmt} {b₀ : Stmt} {np pos pos' : Pos} {tb : WX -> TS} {ts : Addr -> Value -> Option Addr -> TS} {Wout : WX} {Z : Value -> Option Addr -> Obj -> Prop}
end
section
variable {X : Cx} {adr : Ad} {Y : WX} {Z : Value -> Option Addr -> Obj -> Prop}
end
end Mi
namespace Mi
open L2
end Mi
end
section
namespace Mi
open PySem PySem.Spec PySem.Calls PyProof.Rows
section
open PySem.W
variable {prog : Program} {w : World} {A : Around} {E : Value -> Shared -> Prop} {s : Shared} {K : Frag}
end
end Mi
namespace Mi
open PySem PySem.Spec PySem.Calls PyProof.Rows
section
open PySem.W
end
end Mi
namespace Mi
open PySem PySem.Spec PyProof.Rows L2
variable {X : Cx} {adr : Ad} {Y : WX}
end Mi
end
section
namespace Mi
open PySem PySem.Spec PyProof.Rows L2 L2H HotX
variable {X : Cx} {adr : Ad} {Y : WX}
section
variable {P : Program} {w : World} {K : PySem.W.Frag} {mg : Str -> Option Value} {base : Heap} {CX : CXT}
end
section
variable {k : Nat} {f : Addr} {mf : FM} {dws : List W} {x : Str} {p pos : Pos} {e : Expr} {es : List Expr} {as : AM}
end
section
variable {x : Str} {c : Value} {body suite : List Stmt} {b₀ : Stmt} {np pos pos' : Pos} {tb : WX -> TS} {ts : TS} {Wout : WX}
end
end Mi
end
section
namespace Mi
open PySem PySem.Spec PyProof.Rows L2 L2H HotX
variable {X : Cx} {adr : Ad} {Y : WX}
section
variable {x : Str} {c : Value} {body suite : List Stmt} {b₀ : Stmt} {np pos pos' : Pos} {tb : WX -> TS} {ts : TS} {Wout : WX}
end
end Mi
end
section
namespace Mi
open PySem PySem.Spec PyProof.Rows L2
variable {X : Cx} {adr : Ad} {Y : WX}
end Mi
end
section
namespace Mi
open PySem PySem.Spec PyProof.Rows L2
section
variable {R : Nat -> Option GenState} {s s' : Shared} {a : Array GenState} {g : Nat} {x y : GenState}
end
end Mi
end
section
namespace Mi
open PySem PySem.Spec PyProof.Rows L2 GenW
section
variable {M : Model} {A : Around} {Φ : End -> Shared -> Prop} {c : Code} {fs : List Frame} {s : Shared}
end
section
variable {P : Program} {w : World} {A : Around} {E : Value -> Shared -> Prop} {s : Shared}
end
section
variable {X : Cx} {A : Around} {R : GenEnd} {it a : Addr} {xs : List V} {fs : List Frame}
end
section
variable {X : Cx} {st : Stmt} {rest : List Stmt}
end
end Mi
namespace Mi
open PySem PySem.Spec PyProof.Rows L2 GenW
variable {P : Program} {w : World} {K : PySem.W.Frag} {mg : Str -> Option Value} {base : Heap}
end Mi
namespace Mi
open PySem PySem.Spec PyProof.Rows L2 GenW
variable {G : Kt} {X : Cx} {adr : Ad} {Y : WX}
end Mi
end
section
namespace Mi
open PySem PySem.Spec PyProof.Rows L2 GenW
variable {G : Kt} {X : Cx} {adr : Ad} {Y : WX}
end Mi
end
section
namespace Mi
open PySem PySem.Spec PyProof.Rows L2 GenW
variable {X : Cx} {adr : Ad} {Y : WX}
end Mi
end
section
namespace Mi
open PySem PySem.Spec PyProof.Rows L2 PySem.W
variable {G : Kt} {X : Cx} {adr : Ad} {Y : WX}
section
variable {pins : List (Addr × Obj)} {σ : Sl}
end
end Mi
end
section
namespace Mi
open PySem PySem.Spec PyProof.Rows L2
variable {G : Kt} {X : Cx} {adr : Ad} {Y : WX}
end Mi
end
section
namespace Mi
open PySem PySem.Spec PyProof.Rows L2
variable {G : Kt} {X : Cx} {adr : Ad} {Y : WX}
end Mi
end
section
namespace Mi
open PySem PySem.Spec PyProof.Rows L2
variable {G : Kt} {X : Cx} {adr : Ad} {Y : WX}
end Mi
end
section
namespace Mi
open PySem PySem.Spec PyProof.Rows L2
section
variable {prog : Program} {w : World} {A : Around} {E : Value -> Shared -> Prop} {s : Shared}
end
variable {G : Kt} {X : Cx} {adr : Ad} {Y : WX}
end Mi
end
section
namespace Mi
open PySem PySem.Spec PyProof.Rows L2
variable {G : Kt} {X : Cx} {adr : Ad} {Y : WX}
end Mi
end
section
namespace Mi
open PySem PySem.Spec PyProof.Rows L2
variable {X : Cx} {adr : Ad} {Y : WX}
end Mi
end
section
namespace Mi
open PySem PySem.Spec PyProof.Rows L2
variable {X : Cx} {adr : Ad} {Y : WX}
end Mi
end
section
namespace Mi
open PySem PySem.Spec PyProof.Rows L2
variable {G : Kt} {X : Cx} {adr : Ad} {Y : WX}
end Mi
end
section
namespace Mi
open PySem PySem.Spec PyProof.Rows L2
variable {G : Kt} {X : Cx} {adr : Ad} {Y : WX}
end Mi
end
section
namespace K31
open PySem PySem.Spec PyProof.Rows L2 Mi
def lmT : Nat -> Ld
  | _ => ldOf "" [] 0 [] []
abbrev adr (K : PySem.W.Frag) (a : AdP) : Ad := ⟨ga K, lmT, a.en, a.cv, match a.b with
  | true => tbs K
  | false => []⟩
structure Hd (K : PySem.W.Frag) (mg : Str -> Option Value) (base : Heap) : Prop where
  ns : ∃ h : Heap, K.In h /\ h.Ns mainGlobals mg
  c : He.SaysD faL fnL K
  ex : exB K = true
  p : SaysP fpL K
  tb : ∀ p ∈ tfL, LamX.TabB base mg (He.cT K p).1 (He.cT K p).2
section
variable {w : World} {K : PySem.W.Frag} {mg : Str -> Option Value} {base : Heap}
theorem g_Bound (Z : Hd K mg base) : mg "Bound" = some (.ref (He.ga K "Bound")) := let ⟨_, X, G⟩ := Z.ns; He.glo_ok X G (Z.c.fact 0 rfl)
theorem g_Shelf (Z : Hd K mg base) : mg "Shelf" = some (.ref (He.ga K "Shelf")) := let ⟨_, X, G⟩ := Z.ns; He.glo_ok X G (Z.c.fact 1 rfl)
theorem g__law_cell_at (Z : Hd K mg base) : mg "_law_cell_at" = some (.ref (He.ga K "_law_cell_at")) := let ⟨_, X, G⟩ := Z.ns; He.glo_ok X G (Z.c.fact 2 rfl)
theorem g__law_draw (Z : Hd K mg base) : mg "_law_draw" = some (.ref (He.ga K "_law_draw")) := let ⟨_, X, G⟩ := Z.ns; He.glo_ok X G (Z.c.fact 3 rfl)
theorem g__law_number (Z : Hd K mg base) : mg "_law_number" = some (.ref (He.ga K "_law_number")) := let ⟨_, X, G⟩ := Z.ns; He.glo_ok X G (Z.c.fact 4 rfl)
theorem g__law_next (Z : Hd K mg base) : mg "_law_next" = some (.ref (He.ga K "_law_next")) := let ⟨_, X, G⟩ := Z.ns; He.glo_ok X G (Z.c.fact 5 rfl)
theorem g__law_some (Z : Hd K mg base) : mg "_law_some" = some (.ref (He.ga K "_law_some")) := let ⟨_, X, G⟩ := Z.ns; He.glo_ok X G (Z.c.fact 6 rfl)
theorem g__law_pick (Z : Hd K mg base) : mg "_law_pick" = some (.ref (He.ga K "_law_pick")) := let ⟨_, X, G⟩ := Z.ns; He.glo_ok X G (Z.c.fact 7 rfl)
theorem g__law_item (Z : Hd K mg base) : mg "_law_item" = some (.ref (He.ga K "_law_item")) := let ⟨_, X, G⟩ := Z.ns; He.glo_ok X G (Z.c.fact 8 rfl)
theorem g__law_two (Z : Hd K mg base) : mg "_law_two" = some (.ref (He.ga K "_law_two")) := let ⟨_, X, G⟩ := Z.ns; He.glo_ok X G (Z.c.fact 9 rfl)
theorem g__law_drawn (Z : Hd K mg base) : mg "_law_drawn" = some (.ref (He.ga K "_law_drawn")) := let ⟨_, X, G⟩ := Z.ns; He.glo_ok X G (Z.c.fact 10 rfl)
theorem g_is_name (Z : Hd K mg base) : mg "is_name" = some (.ref (He.ga K "is_name")) := let ⟨_, X, G⟩ := Z.ns; He.glo_ok X G (Z.c.fact 11 rfl)
theorem g_is_integer (Z : Hd K mg base) : mg "is_integer" = some (.ref (He.ga K "is_integer")) := let ⟨_, X, G⟩ := Z.ns; He.glo_ok X G (Z.c.fact 12 rfl)
theorem g_are_versions (Z : Hd K mg base) : mg "are_versions" = some (.ref (He.ga K "are_versions")) := let ⟨_, X, G⟩ := Z.ns; He.glo_ok X G (Z.c.fact 13 rfl)
theorem g_are_packages (Z : Hd K mg base) : mg "are_packages" = some (.ref (He.ga K "are_packages")) := let ⟨_, X, G⟩ := Z.ns; He.glo_ok X G (Z.c.fact 14 rfl)
theorem g_are_others (Z : Hd K mg base) : mg "are_others" = some (.ref (He.ga K "are_others")) := let ⟨_, X, G⟩ := Z.ns; He.glo_ok X G (Z.c.fact 15 rfl)
theorem g_is_item (Z : Hd K mg base) : mg "is_item" = some (.ref (He.ga K "is_item")) := let ⟨_, X, G⟩ := Z.ns; He.glo_ok X G (Z.c.fact 16 rfl)
theorem g_are_needs (Z : Hd K mg base) : mg "are_needs" = some (.ref (He.ga K "are_needs")) := let ⟨_, X, G⟩ := Z.ns; He.glo_ok X G (Z.c.fact 17 rfl)
theorem g_is_break (Z : Hd K mg base) : mg "is_break" = some (.ref (He.ga K "is_break")) := let ⟨_, X, G⟩ := Z.ns; He.glo_ok X G (Z.c.fact 18 rfl)
theorem g_is_request (Z : Hd K mg base) : mg "is_request" = some (.ref (He.ga K "is_request")) := let ⟨_, X, G⟩ := Z.ns; He.glo_ok X G (Z.c.fact 19 rfl)
theorem g_is_bound_of (Z : Hd K mg base) : mg "is_bound_of" = some (.ref (He.ga K "is_bound_of")) := let ⟨_, X, G⟩ := Z.ns; He.glo_ok X G (Z.c.fact 20 rfl)
theorem g__law_shelf (Z : Hd K mg base) : mg "_law_shelf" = some (.ref (He.ga K "_law_shelf")) := let ⟨_, X, G⟩ := Z.ns; He.glo_ok X G (Z.c.fact 21 rfl)
theorem g_needed (Z : Hd K mg base) : mg "needed" = some (.ref (He.ga K "needed")) := let ⟨_, X, G⟩ := Z.ns; He.glo_ok X G (Z.c.fact 22 rfl)
theorem g__law_equal_right (Z : Hd K mg base) : mg "_law_equal_right" = some (.ref (He.ga K "_law_equal_right")) := let ⟨_, X, G⟩ := Z.ns; He.glo_ok X G (Z.c.fact 23 rfl)
theorem g__law_one_right (Z : Hd K mg base) : mg "_law_one_right" = some (.ref (He.ga K "_law_one_right")) := let ⟨_, X, G⟩ := Z.ns; He.glo_ok X G (Z.c.fact 24 rfl)
theorem f_all (Z : Hd K mg base) : mg "all" = none := let ⟨_, X, G⟩ := Z.ns; He.free_ok X G (Z.c.fact 26 rfl)
theorem f_bool (Z : Hd K mg base) : mg "bool" = none := let ⟨_, X, G⟩ := Z.ns; He.free_ok X G (Z.c.fact 27 rfl)
theorem f_dict (Z : Hd K mg base) : mg "dict" = none := let ⟨_, X, G⟩ := Z.ns; He.free_ok X G (Z.c.fact 28 rfl)
theorem f_int (Z : Hd K mg base) : mg "int" = none := let ⟨_, X, G⟩ := Z.ns; He.free_ok X G (Z.c.fact 29 rfl)
theorem f_isinstance (Z : Hd K mg base) : mg "isinstance" = none := let ⟨_, X, G⟩ := Z.ns; He.free_ok X G (Z.c.fact 30 rfl)
theorem f_len (Z : Hd K mg base) : mg "len" = none := let ⟨_, X, G⟩ := Z.ns; He.free_ok X G (Z.c.fact 31 rfl)
theorem f_list (Z : Hd K mg base) : mg "list" = none := let ⟨_, X, G⟩ := Z.ns; He.free_ok X G (Z.c.fact 32 rfl)
theorem f_max (Z : Hd K mg base) : mg "max" = none := let ⟨_, X, G⟩ := Z.ns; He.free_ok X G (Z.c.fact 33 rfl)
theorem f_min (Z : Hd K mg base) : mg "min" = none := let ⟨_, X, G⟩ := Z.ns; He.free_ok X G (Z.c.fact 34 rfl)
theorem f_range (Z : Hd K mg base) : mg "range" = none := let ⟨_, X, G⟩ := Z.ns; He.free_ok X G (Z.c.fact 35 rfl)
theorem f_sorted (Z : Hd K mg base) : mg "sorted" = none := let ⟨_, X, G⟩ := Z.ns; He.free_ok X G (Z.c.fact 36 rfl)
theorem f_str (Z : Hd K mg base) : mg "str" = none := let ⟨_, X, G⟩ := Z.ns; He.free_ok X G (Z.c.fact 37 rfl)
theorem f_tuple (Z : Hd K mg base) : mg "tuple" = none := let ⟨_, X, G⟩ := Z.ns; He.free_ok X G (Z.c.fact 38 rfl)
theorem f_zip (Z : Hd K mg base) : mg "zip" = none := let ⟨_, X, G⟩ := Z.ns; He.free_ok X G (Z.c.fact 39 rfl)
theorem c_LETTERS (Z : Hd K mg base) : ∃ t, mg "LETTERS" = some (.str "abcdefghijklmnopqrstuvwxyz" t) := let ⟨_, X, G⟩ := Z.ns; He.str_ok X G (Z.c.fact 40 rfl)
theorem c_MAX_BOUNDS (Z : Hd K mg base) : ∃ t, mg "MAX_BOUNDS" = some (.int 6 t) := let ⟨_, X, G⟩ := Z.ns; He.int_ok X G (Z.c.fact 41 rfl)
theorem c_MAX_COST (Z : Hd K mg base) : ∃ t, mg "MAX_COST" = some (.int 9 t) := let ⟨_, X, G⟩ := Z.ns; He.int_ok X G (Z.c.fact 42 rfl)
theorem c_MAX_NAME (Z : Hd K mg base) : ∃ t, mg "MAX_NAME" = some (.int 8 t) := let ⟨_, X, G⟩ := Z.ns; He.int_ok X G (Z.c.fact 43 rfl)
theorem c_MAX_PACKAGES (Z : Hd K mg base) : ∃ t, mg "MAX_PACKAGES" = some (.int 5 t) := let ⟨_, X, G⟩ := Z.ns; He.int_ok X G (Z.c.fact 44 rfl)
theorem c_MAX_REQUESTS (Z : Hd K mg base) : ∃ t, mg "MAX_REQUESTS" = some (.int 3 t) := let ⟨_, X, G⟩ := Z.ns; He.int_ok X G (Z.c.fact 45 rfl)
theorem c_MAX_VERSION (Z : Hd K mg base) : ∃ t, mg "MAX_VERSION" = some (.int 3 t) := let ⟨_, X, G⟩ := Z.ns; He.int_ok X G (Z.c.fact 46 rfl)
theorem l_Bound (Z : Hd K mg base) : Cls K (He.ga K "Bound") := He.cls_ok (Z.c.fact 47 rfl)
theorem l_Shelf (Z : Hd K mg base) : Cls K (He.ga K "Shelf") := He.cls_ok (Z.c.fact 48 rfl)
theorem a_asked (Z : Hd K mg base) : ∀ c ∈ [1], Cls K (ga K c) /\ NoAttr K (ga K c) "asked" := fun c hc => match c, hc with | _, .head _ => ⟨l_Shelf Z, He.noat_ok (Z.c.fact 49 rfl)⟩
theorem a_charge (Z : Hd K mg base) : ∀ c ∈ [0], Cls K (ga K c) /\ NoAttr K (ga K c) "charge" := fun c hc => match c, hc with | _, .head _ => ⟨l_Bound Z, He.noat_ok (Z.c.fact 50 rfl)⟩
theorem a_clashes (Z : Hd K mg base) : ∀ c ∈ [1], Cls K (ga K c) /\ NoAttr K (ga K c) "clashes" := fun c hc => match c, hc with | _, .head _ => ⟨l_Shelf Z, He.noat_ok (Z.c.fact 51 rfl)⟩
theorem a_lines (Z : Hd K mg base) : ∀ c ∈ [1], Cls K (ga K c) /\ NoAttr K (ga K c) "lines" := fun c hc => match c, hc with | _, .head _ => ⟨l_Shelf Z, He.noat_ok (Z.c.fact 52 rfl)⟩
theorem a_most (Z : Hd K mg base) : ∀ c ∈ [1], Cls K (ga K c) /\ NoAttr K (ga K c) "most" := fun c hc => match c, hc with | _, .head _ => ⟨l_Shelf Z, He.noat_ok (Z.c.fact 53 rfl)⟩
theorem a_sides (Z : Hd K mg base) : ∀ c ∈ [0], Cls K (ga K c) /\ NoAttr K (ga K c) "sides" := fun c hc => match c, hc with | _, .head _ => ⟨l_Bound Z, He.noat_ok (Z.c.fact 54 rfl)⟩
theorem a_wants (Z : Hd K mg base) : ∀ c ∈ [1], Cls K (ga K c) /\ NoAttr K (ga K c) "wants" := fun c hc => match c, hc with | _, .head _ => ⟨l_Shelf Z, He.noat_ok (Z.c.fact 55 rfl)⟩
theorem mk_Bound (Z : Hd K mg base) : Mk K (He.ga K "Bound") (He.ma K (He.ga K "Bound") "__init__") := He.mkr_ok (Z.c.fact 56 rfl)
theorem mk_Shelf (Z : Hd K mg base) : Mk K (He.ga K "Shelf") (He.ma K (He.ga K "Shelf") "__init__") := He.mkr_ok (Z.c.fact 57 rfl)
theorem t_Shelf_needs (Z : Hd K mg base) : Meth K (He.ga K "Shelf") "needs" (He.ma K (He.ga K "Shelf") "needs") := He.meth_ok (Z.c.fact 58 rfl)
theorem t_Shelf___getitem__ (Z : Hd K mg base) : Meth K (He.ga K "Shelf") "__getitem__" (He.ma K (He.ga K "Shelf") "__getitem__") := He.meth_ok (Z.c.fact 59 rfl)
theorem t_Bound___neg__ (Z : Hd K mg base) : Meth K (He.ga K "Bound") "__neg__" (He.ma K (He.ga K "Bound") "__neg__") := He.meth_ok (Z.c.fact 60 rfl)
theorem t_Bound___eq__ (Z : Hd K mg base) : Meth K (He.ga K "Bound") "__eq__" (He.ma K (He.ga K "Bound") "__eq__") := He.meth_ok (Z.c.fact 61 rfl)
theorem t_Shelf___contains__ (Z : Hd K mg base) : Meth K (He.ga K "Shelf") "__contains__" (He.ma K (He.ga K "Shelf") "__contains__") := He.meth_ok (Z.c.fact 62 rfl)
theorem t_Shelf_all_parts (Z : Hd K mg base) : Meth K (He.ga K "Shelf") "all_parts" (He.ma K (He.ga K "Shelf") "all_parts") := He.meth_ok (Z.c.fact 63 rfl)
theorem t_Shelf___eq__ (Z : Hd K mg base) : Meth K (He.ga K "Shelf") "__eq__" (He.ma K (He.ga K "Shelf") "__eq__") := He.meth_ok (Z.c.fact 64 rfl)
theorem t_Shelf___len__ (Z : Hd K mg base) : Meth K (He.ga K "Shelf") "__len__" (He.ma K (He.ga K "Shelf") "__len__") := He.meth_ok (Z.c.fact 65 rfl)
theorem ex0 (Z : Hd K mg base) : (isB K (ga K) nC subC && true) = true := (Bool.and_eq_true_iff.mp Z.ex).1
theorem isf (Z : Hd K mg base) : IsF K (ga K) nC subC := isB_ok (Bool.and_eq_true_iff.mp (ex0 Z)).1
theorem p_Shelf_packages (Z : Hd K mg base) : PropOf K (He.ga K "Shelf") "packages" (He.fAd K ("Shelf", some "packages")) (pg K ("Shelf", some "packages")) := propB_ok (List.all_eq_true.mp (Bool.and_eq_true_iff.mp Z.ex).2 _ (List.mem_of_getElem? (i := 0) rfl))
theorem p_Shelf_requests (Z : Hd K mg base) : PropOf K (He.ga K "Shelf") "requests" (He.fAd K ("Shelf", some "requests")) (pg K ("Shelf", some "requests")) := propB_ok (List.all_eq_true.mp (Bool.and_eq_true_iff.mp Z.ex).2 _ (List.mem_of_getElem? (i := 1) rfl))
theorem p_Shelf_names (Z : Hd K mg base) : PropOf K (He.ga K "Shelf") "names" (He.fAd K ("Shelf", some "names")) (pg K ("Shelf", some "names")) := propB_ok (List.all_eq_true.mp (Bool.and_eq_true_iff.mp Z.ex).2 _ (List.mem_of_getElem? (i := 2) rfl))
theorem p_Bound_versions (Z : Hd K mg base) : PropOf K (He.ga K "Bound") "versions" (He.fAd K ("Bound", some "versions")) (pg K ("Bound", some "versions")) := propB_ok (List.all_eq_true.mp (Bool.and_eq_true_iff.mp Z.ex).2 _ (List.mem_of_getElem? (i := 3) rfl))
theorem p_Bound_first (Z : Hd K mg base) : PropOf K (He.ga K "Bound") "first" (He.fAd K ("Bound", some "first")) (pg K ("Bound", some "first")) := propB_ok (List.all_eq_true.mp (Bool.and_eq_true_iff.mp Z.ex).2 _ (List.mem_of_getElem? (i := 4) rfl))
theorem p_Bound_others (Z : Hd K mg base) : PropOf K (He.ga K "Bound") "others" (He.fAd K ("Bound", some "others")) (pg K ("Bound", some "others")) := propB_ok (List.all_eq_true.mp (Bool.and_eq_true_iff.mp Z.ex).2 _ (List.mem_of_getElem? (i := 5) rfl))
theorem p_Bound_second (Z : Hd K mg base) : PropOf K (He.ga K "Bound") "second" (He.fAd K ("Bound", some "second")) (pg K ("Bound", some "second")) := propB_ok (List.all_eq_true.mp (Bool.and_eq_true_iff.mp Z.ex).2 _ (List.mem_of_getElem? (i := 6) rfl))
theorem p_Bound_cost (Z : Hd K mg base) : PropOf K (He.ga K "Bound") "cost" (He.fAd K ("Bound", some "cost")) (pg K ("Bound", some "cost")) := propB_ok (List.all_eq_true.mp (Bool.and_eq_true_iff.mp Z.ex).2 _ (List.mem_of_getElem? (i := 7) rfl))
theorem i0_Shelf (Z : Hd K mg base) : PySem.W.fnIn K (He.ma K (He.ga K "Shelf") "__getitem__") = true := List.all_eq_true.mp (Bool.and_eq_true_iff.mp Z.ex).2 _ (List.mem_of_getElem? (i := 8) rfl)
end
def m__law_cell_at : FM := rsF (mDef 2 0 true (sSeq (sIf (mBin wLt (mV 1) (mCallB wLen (mCons (mV 0) mNil))) (sSeq (sRet (mBin wIx (mV 0) (mV 1))) sNil) sNil) (sSeq (sRet (mC (.int 0))) sNil)))
def m__law_draw : FM := rsF (mDef 3 1 true (sSeq (sSet 3 (mTup (mCons (mC (.int 1000003)) (mCons (mC (.int 1000033)) (mCons (mC (.int 1000037)) (mCons (mC (.int 1000039)) (mCons (mC (.int 1000081)) (mCons (mC (.int 1000099)) (mCons (mC (.int 1000117)) (mCons (mC (.int 1000121)) (mCons (mC (.int 1000133)) (mCons (mC (.int 1000151)) (mCons (mC (.int 1000159)) (mCons (mC (.int 1000171)) (mCons (mC (.int 1000183)) (mCons (mC (.int 1000187)) (mCons (mC (.int 1000193)) (mCons (mC (.int 1000199)) mNil)))))))))))))))))) (sSeq (sRet (mBin wMod (mBin wMod (mBin wAdd (mBin wMul (mV 0) (mC (.int 48271))) (mBin wMul (mV 1) (mC (.int 69621)))) (mBin wIx (mV 3) (mBin wMod (mV 1) (mC (.int 16))))) (mV 2))) sNil)))
def m__law_number : FM := rsF (mDef 3 4 true (sSeq (sSet 3 (mC (.int 1))) (sSeq (sForI (mRng1 (mCons (mBin wMod (mV 1) (mC (.int 24))) mNil)) (gSet 4) (sSeq (sSet 3 (mBin wMul (mV 3) (mC (.int 1009)))) sNil)) (sSeq (sSet 5 (mBin wFdivW (mBin wSub (mV 0) (mBin wPow (mC (.int 10)) (mC (.int 18)))) (mV 3))) (sSeq (sIf (mBin wGt (mV 5) (mC (.int 0))) (sSeq (sRet (mBin wMod (mBin wMod (mV 5) (mC (.int 1009))) (mV 2))) sNil) sNil) (sSeq (sSet 6 (mBin wMod (mV 0) (mC (.int 1000003)))) (sSeq (sRet (mBin wMod (mCall m__law_draw [] (mCons (mBin wMul (mBin wAdd (mV 6) (mBin wMul (mC (.int 977)) (mV 1))) (mBin wAdd (mBin wAdd (mV 6) (mBin wMul (mC (.int 31)) (mV 1))) (mC (.int 5)))) (mCons (mBin wAdd (mBin wMod (mV 1) (mC (.int 9))) (mC (.int 1))) (mCons (mC (.int 999983)) mNil)))) (mV 2))) sNil)))))))
def m__law_next : FM := rsF (mDef 2 2 true (sSeq (sPutL (mV 0) (mC (.int 2)) (mBin wAdd (mBin wIx (mV 0) (mC (.int 2))) (mC (.int 1)))) (sSeq (sSet 2 (mBin wFdivW (mBin wIx (mV 0) (mC (.int 2))) (mC (.int 12)))) (sSeq (sSet 3 (mBin wAdd (mCall m__law_cell_at [] (mCons (mBin wIx (mV 0) (mC (.int 0))) (mCons (mBin wAdd (mBin wIx (mV 0) (mC (.int 1))) (mV 2)) mNil))) (mBin wMul (mC (.int 31)) (mV 2)))) (sSeq (sRet (mCall m__law_number [] (mCons (mV 3) (mCons (mBin wAdd (mBin wMod (mBin wIx (mV 0) (mC (.int 2))) (mC (.int 12))) (mC (.int 1))) (mCons (mV 1) mNil))))) sNil)))))
def m__law_some : FM := rsF (mDef 3 1 true (sSeq (sRet (mCallB wTuple (mCons (mLc (mSeq (mV 1)) (gSet 3) (mBin (wCmpB false) (mCall m__law_next [] (mCons (mV 0) (mCons (mV 2) mNil))) (mC (.int 0))) (mV 3) [3]) mNil))) sNil))
def m__law_pick : FM := rsF (mDef 2 0 true (sSeq (sRet (mBin wIx (mV 1) (mCall m__law_next [] (mCons (mV 0) (mCons (mCallB wLen (mCons (mV 1) mNil)) mNil))))) sNil))
def m__law_item : FM := rsF (mDef 2 1 true (sSeq (sSet 2 (mCall m__law_pick [] (mCons (mV 0) (mCons (mCallB wList (mCons (mV 1) mNil)) mNil)))) (sSeq (sRet (mTup (mCons (mV 2) (mCons (mBin wAdd (mC (.int 1)) (mCall m__law_next [] (mCons (mV 0) (mCons (mBin wIx (mV 1) (mV 2)) mNil)))) mNil)))) sNil)))
def m__law_two : FM := rsF (mDef 2 4 true (sSeq (sPar2 2 3 (mCons (mCall m__law_item [] (mCons (mV 0) (mCons (mV 1) mNil))) (mCons (mCall m__law_item [] (mCons (mV 0) (mCons (mV 1) mNil))) mNil))) (sSeq (sWhile (mBin (wCmpB false) (mBin wIx (mV 3) (mC (.int 0))) (mBin wIx (mV 2) (mC (.int 0)))) (sSeq (sSet 4 (mCallB wList (mCons (mV 1) mNil))) (sSeq (sSet 5 (mBin wIx (mV 4) (mBin wMod (mBin wAdd (mMeth isL fIndex (mV 4) (mCons (mBin wIx (mV 3) (mC (.int 0))) mNil)) (mC (.int 1))) (mCallB wLen (mCons (mV 4) mNil))))) (sSeq (sSet 3 (mTup (mCons (mV 5) (mCons (mBin wAdd (mC (.int 1)) (mCall m__law_next [] (mCons (mV 0) (mCons (mBin wIx (mV 1) (mV 5)) mNil)))) mNil)))) sNil))) 400) (sSeq (sRet (mTup (mCons (mV 2) (mCons (mV 3) mNil)))) sNil))))
def m__law_drawn : FM := rsF (mDef 2 15 true (sSeq (sSet 2 mDict0B) (sSeq (sForI (mSeq (mSl (mLst (mCons (mC (.str "lib")) (mCons (mC (.str "app")) (mCons (mC (.str "core")) (mCons (mC (.str "b")) mNil))))) oNone (oSome (mBin wAdd (mC (.int 2)) (mCall m__law_next [] (mCons (mV 0) (mCons (mC (.int 3)) mNil))))))) (gSet 3) (sSeq (sPut (mV 2) (mV 3) (mBin wAdd (mC (.int 1)) (mCall m__law_next [] (mCons (mV 0) (mCons (mC (.int 3)) mNil))))) sNil)) (sSeq (sFrz 2) (sSeq (sPar2 8 9 (mCons mDict0B (mCons (mCallB wList (mCons (mV 2) mNil)) mNil))) (sSeq (sForI (mSeq (mV 9)) (gSet 3) (sSeq (sForI (mRng2 (mCons (mC (.int 1)) (mCons (mBin wAdd (mBin wIx (mV 2) (mV 3)) (mC (.int 1))) mNil))) (gSet 10) (sSeq (sSet 11 (mCallB wTuple (mCons (mLc (mSeq (mCall m__law_some [] (mCons (mV 0) (mCons (mV 9) (mCons (mC (.int 3)) mNil))))) (gSet 14) (mBin (wCmpB true) (mV 14) (mV 3)) (mV 14) [14]) mNil))) (sSeq (sFrz 11) (sSeq (sIf (mOr (mBin (wCmpB true) (mV 11) (mTup mNil)) (mBin (wCmpB false) (mCall m__law_next [] (mCons (mV 0) (mCons (mC (.int 6)) mNil))) (mC (.int 0)))) (sSeq (sPut (mV 8) (mTup (mCons (mV 3) (mCons (mV 10) mNil))) (mV 11)) sNil) sNil) sNil)))) sNil)) (sSeq (sFrz 8) (sSeq (sSet 4 (mLc (mRng1 (mCons (mCall m__law_next [] (mCons (mV 0) (mCons (mC (.int 4)) mNil))) mNil)) (gSet 6) yes (mCall m__law_two [] (mCons (mV 0) (mCons (mV 2) mNil))) [6])) (sSeq (sSet 5 (mBox mNil)) (sSeq (sForI (mRng1 (mCons (mBin wAdd (mC (.int 1)) (mCall m__law_next [] (mCons (mV 0) (mCons (mC (.int 2)) mNil)))) mNil)) (gSet 6) (sSeq (sSet 11 (mCall m__law_some [] (mCons (mV 0) (mCons (mV 9) (mCons (mC (.int 2)) mNil))))) (sSeq (sFrz 11) (sSeq (sExpr (mMeth isL fAppend (mV 5) (mCons (mIf (mBin (wCmpB true) (mV 11) (mTup mNil)) (mV 11) (mTup (mCons (mCall m__law_pick [] (mCons (mV 0) (mCons (mV 9) mNil))) mNil))) mNil))) sNil)))) (sSeq (sFrz 5) (sSeq (sSet 7 mDict0B) (sSeq (sForI (mSeq (mSl (mLst (mCons (mC (.str "old")) (mCons (mC (.str "a")) (mCons (mC (.str "new")) (mCons (mC (.str "z")) mNil))))) oNone (oSome (mCall m__law_next [] (mCons (mV 0) (mCons (mBin wAdd (mV 1) (mC (.int 1))) mNil)))))) (gSet 3) (sSeq (sAsg (gTupM 2 (gAnd (gSet 14) (gAnd (gSet 15) gNo))) (mCall m__law_two [] (mCons (mV 0) (mCons (mV 2) mNil)))) (sSeq (sIf (mAnd (mBin (wCmpB true) (mV 4) (mLst mNil)) (mBin wGt (mCall m__law_next [] (mCons (mV 0) (mCons (mC (.int 4)) mNil))) (mC (.int 0)))) (sSeq (sAsg (gTupM 2 (gAnd (gSet 14) (gAnd (gSet 15) gNo))) (mCall m__law_pick [] (mCons (mV 0) (mCons (mV 4) mNil)))) sNil) sNil) (sSeq (sIf (mBin (wCmpB false) (mCall m__law_next [] (mCons (mV 0) (mCons (mC (.int 2)) mNil))) (mC (.int 0))) (sSeq (sPar2 14 15 (mCons (mV 15) (mCons (mV 14) mNil))) sNil) sNil) (sSeq (sSet 12 (mBox mNil)) (sSeq (sForI (mSeq (mTup (mCons (mV 14) (mCons (mV 15) mNil)))) (gSet 13) (sSeq (sSet 11 (mBox mNil)) (sSeq (sForI (mRng2 (mCons (mC (.int 1)) (mCons (mBin wAdd (mBin wIx (mV 2) (mBin wIx (mV 13) (mC (.int 0)))) (mC (.int 1))) mNil))) (gSet 16) (sSeq (sIf (mOr (mBin (wCmpB false) (mV 16) (mBin wIx (mV 13) (mC (.int 1)))) (mBin (wCmpB false) (mCall m__law_next [] (mCons (mV 0) (mCons (mC (.int 5)) mNil))) (mC (.int 0)))) (sSeq (sExpr (mMeth isL fAppend (mV 11) (mCons (mV 16) mNil))) sNil) sNil) sNil)) (sSeq (sFrz 11) (sSeq (sExpr (mMeth isL fAppend (mV 12) (mCons (mTup (mCons (mBin wIx (mV 13) (mC (.int 0))) (mCons (mCallB wTuple (mCons (mV 11) mNil)) mNil))) mNil))) sNil))))) (sSeq (sFrz 12) (sSeq (sPut (mV 7) (mV 3) (mTup (mCons (mBin wIx (mV 12) (mC (.int 0))) (mCons (mBin wIx (mV 12) (mC (.int 1))) (mCons (mBin wAdd (mC (.int 1)) (mCall m__law_next [] (mCons (mV 0) (mCons (mC (.int 3)) mNil)))) mNil))))) sNil)))))))) (sSeq (sFrz 7) (sSeq (sRet (mTup (mCons (mV 2) (mCons (mV 8) (mCons (mV 4) (mCons (mV 5) (mCons (mV 7) mNil))))))) sNil)))))))))))))))
def m_is_name : FM := rsF (mDef 1 1 true (sSeq (sRet (mAnd (mCallB (wIsi nC subC) (mCons (mV 0) (mCons (mC (.ty 1)) mNil))) (mAnd (mChain wLe wLe (mC (.int 1)) (mCallB wLen (mCons (mV 0) mNil)) (mC (.int 8))) (mCallB wAll (mCons (mLc (mSeq (mV 0)) (gSet 1) yes (mBin (wIn false) (mV 1) (mC (.str "abcdefghijklmnopqrstuvwxyz"))) [1]) mNil))))) sNil))
def m_is_integer : FM := rsF (mDef 3 0 true (sSeq (sRet (mAnd (mCallB (wIsi nC subC) (mCons (mV 0) (mCons (mC (.ty 0)) mNil))) (mAnd (mNot (mCallB (wIsi nC subC) (mCons (mV 0) (mCons (mC (.ty 2)) mNil)))) (mChain wLe wLe (mV 1) (mV 0) (mV 2))))) sNil))
def m_are_versions : FM := rsF (mDef 1 2 true (sSeq (sIf (mOr (mNot (mCallB (wIsi nC subC) (mCons (mV 0) (mCons (mC (.ty 3)) mNil)))) (mOr (mBin (wCmpB false) (mV 0) (mTup mNil)) (mNot (mCallB wAll (mCons (mLc (mSeq (mV 0)) (gSet 1) yes (mCall m_is_integer [] (mCons (mV 1) (mCons (mC (.int 1)) (mCons (mC (.int 3)) mNil)))) [1]) mNil))))) (sSeq (sRet (mC (.bl false))) sNil) sNil) (sSeq (sRet (mCallB wAll (mCons (mLc (mZip (mCons (mV 0) (mCons (mSl (mV 0) (oSome (mC (.int 1))) oNone) mNil))) (gTupM 2 (gAnd (gSet 1) (gAnd (gSet 2) gNo))) yes (mBin wLt (mV 1) (mV 2)) [1, 2]) mNil))) sNil)))
def m_Bound_init : FM := rsF (mDef 6 0 true (sSeq (sIf (mOr (mNot (mCall m_is_name [] (mCons (mV 1) mNil))) (mOr (mNot (mCall m_is_name [] (mCons (mV 3) mNil))) (mBin (wCmpB false) (mV 1) (mV 3)))) (sSeq sNever sNil) sNil) (sSeq (sIf (mOr (mNot (mCall m_are_versions [] (mCons (mV 2) mNil))) (mNot (mCall m_are_versions [] (mCons (mV 4) mNil)))) (sSeq sNever sNil) sNil) (sSeq (sIf (mNot (mCall m_is_integer [] (mCons (mV 5) (mCons (mC (.int 1)) (mCons (mC (.int 9)) mNil))))) (sSeq sNever sNil) sNil) (sSeq (sFldM [0] "sides" (mV 0) (mTup (mCons (mTup (mCons (mV 1) (mCons (mV 2) mNil))) (mCons (mTup (mCons (mV 3) (mCons (mV 4) mNil))) mNil)))) (sSeq (sFldM [0] "charge" (mV 0) (mV 5)) sNil))))))
def m_are_packages : FM := rsF (mDef 1 2 true (sSeq (sIf (mOr (mNot (mCallB (wIsi nC subC) (mCons (mV 0) (mCons (mC (.ty 5)) mNil)))) (mNot (mChain wLe wLe (mC (.int 2)) (mCallB wLen (mCons (mV 0) mNil)) (mC (.int 5))))) (sSeq (sRet (mC (.bl false))) sNil) sNil) (sSeq (sRet (mCallB wAll (mCons (mLc (mItems (mV 0)) (gTupM 2 (gAnd (gSet 1) (gAnd (gSet 2) gNo))) yes (mAnd (mCall m_is_name [] (mCons (mV 1) mNil)) (mCall m_is_integer [] (mCons (mV 2) (mCons (mC (.int 1)) (mCons (mC (.int 3)) mNil))))) [1, 2]) mNil))) sNil)))
def m_are_others : FM := rsF (mDef 3 1 true (sSeq (sIf (mOr (mNot (mCallB (wIsi nC subC) (mCons (mV 2) (mCons (mC (.ty 3)) mNil)))) (mNot (mCallB wAll (mCons (mLc (mSeq (mV 2)) (gSet 3) yes (mAnd (mCallB (wIsi nC subC) (mCons (mV 3) (mCons (mC (.ty 1)) mNil))) (mBin (wIn false) (mV 3) (mV 0))) [3]) mNil)))) (sSeq (sRet (mC (.bl false))) sNil) sNil) (sSeq (sRet (mAnd (mBin (wIn true) (mV 1) (mV 2)) (mBin (wCmpB false) (mCallB wLen (mCons (mDc (mSeq (mV 2)) (gSet 3) yes (mV 3) (mC (.bl true)) [3]) mNil)) (mCallB wLen (mCons (mV 2) mNil))))) sNil)))
def m_is_item : FM := rsF (mDef 2 0 true (sSeq (sIf (mOr (mNot (mCallB (wIsi nC subC) (mCons (mV 1) (mCons (mC (.ty 3)) mNil)))) (mOr (mBin (wCmpB true) (mCallB wLen (mCons (mV 1) mNil)) (mC (.int 2))) (mOr (mNot (mCallB (wIsi nC subC) (mCons (mBin wIx (mV 1) (mC (.int 0))) (mCons (mC (.ty 1)) mNil)))) (mBin (wIn true) (mBin wIx (mV 1) (mC (.int 0))) (mV 0))))) (sSeq (sRet (mC (.bl false))) sNil) sNil) (sSeq (sRet (mCall m_is_integer [] (mCons (mBin wIx (mV 1) (mC (.int 1))) (mCons (mC (.int 1)) (mCons (mBin wIx (mV 0) (mBin wIx (mV 1) (mC (.int 0)))) mNil))))) sNil)))
def m_are_needs : FM := rsF (mDef 2 2 true (sSeq (sIf (mNot (mCallB (wIsi nC subC) (mCons (mV 1) (mCons (mC (.ty 5)) mNil)))) (sSeq (sRet (mC (.bl false))) sNil) sNil) (sSeq (sRet (mCallB wAll (mCons (mLc (mItems (mV 1)) (gTupM 2 (gAnd (gSet 2) (gAnd (gSet 3) gNo))) yes (mAnd (mCall m_is_item [] (mCons (mV 0) (mCons (mV 2) mNil))) (mCall m_are_others [] (mCons (mV 0) (mCons (mBin wIx (mV 2) (mC (.int 0))) (mCons (mV 3) mNil))))) [2, 3]) mNil))) sNil)))
def m_is_break : FM := rsF (mDef 2 1 true (sSeq (sIf (mOr (mNot (mCallB (wIsi nC subC) (mCons (mV 1) (mCons (mC (.ty 3)) mNil)))) (mOr (mBin (wCmpB true) (mCallB wLen (mCons (mV 1) mNil)) (mC (.int 2))) (mNot (mCallB wAll (mCons (mLc (mSeq (mV 1)) (gSet 2) yes (mCall m_is_item [] (mCons (mV 0) (mCons (mV 2) mNil))) [2]) mNil))))) (sSeq (sRet (mC (.bl false))) sNil) sNil) (sSeq (sRet (mBin (wCmpB true) (mBin wIx (mBin wIx (mV 1) (mC (.int 0))) (mC (.int 0))) (mBin wIx (mBin wIx (mV 1) (mC (.int 1))) (mC (.int 0))))) sNil)))
def m_is_request : FM := rsF (mDef 2 2 true (sSeq (sIf (mOr (mNot (mCallB (wIsi nC subC) (mCons (mV 1) (mCons (mC (.ty 3)) mNil)))) (mOr (mBin (wCmpB false) (mV 1) (mTup mNil)) (mNot (mCallB wAll (mCons (mLc (mSeq (mV 1)) (gSet 3) yes (mCallB (wIsi nC subC) (mCons (mV 3) (mCons (mC (.ty 1)) mNil))) [3]) mNil))))) (sSeq (sRet (mC (.bl false))) sNil) sNil) (sSeq (sRet (mBin (wCmpB false) (mCallB wList (mCons (mV 1) mNil)) (mLc (mSeq (mV 0)) (gSet 2) (mBin (wIn false) (mV 2) (mV 1)) (mV 2) [2]))) sNil)))
def m_is_bound_of : FM := rsF (mDef 2 2 true (sSeq (sIf (mNot (mCallB (wIsi nC subC) (mCons (mV 1) (mCons (mC (.cl 0)) mNil)))) (sSeq (sRet (mC (.bl false))) sNil) sNil) (sSeq (sRet (mCallB wAll (mCons (mLc (mSeq (mFld [0] "sides" (mV 1))) (gTupM 2 (gAnd (gSet 2) (gAnd (gSet 3) gNo))) yes (mAnd (mBin (wIn false) (mV 2) (mV 0)) (mBin wLe (mBin wIx (mV 3) (mNeg (mC (.int 1)))) (mBin wIx (mV 0) (mV 2)))) [2, 3]) mNil))) sNil)))
def m_Shelf_init : FM := rsF (mDef 6 7 true (sSeq (sIf (mNot (mCall m_are_packages [] (mCons (mV 1) mNil))) (sSeq sNever sNil) sNil) (sSeq (sIf (mNot (mCall m_are_needs [] (mCons (mV 1) (mCons (mV 2) mNil)))) (sSeq sNever sNil) sNil) (sSeq (sIf (mOr (mNot (mCallB (wIsi nC subC) (mCons (mV 3) (mCons (mTup (mCons (mC (.ty 4)) (mCons (mC (.ty 3)) mNil))) mNil)))) (mNot (mCallB wAll (mCons (mLc (mSeq (mV 3)) (gSet 12) yes (mCall m_is_break [] (mCons (mV 1) (mCons (mV 12) mNil))) [12]) mNil)))) (sSeq sNever sNil) sNil) (sSeq (sIf (mOr (mNot (mCallB (wIsi nC subC) (mCons (mV 4) (mCons (mTup (mCons (mC (.ty 4)) (mCons (mC (.ty 3)) mNil))) mNil)))) (mNot (mChain wLe wLe (mC (.int 1)) (mCallB wLen (mCons (mV 4) mNil)) (mC (.int 3))))) (sSeq sNever sNil) sNil) (sSeq (sIf (mNot (mCallB wAll (mCons (mLc (mSeq (mV 4)) (gSet 11) yes (mCall m_is_request [] (mCons (mV 1) (mCons (mV 11) mNil))) [11]) mNil))) (sSeq sNever sNil) sNil) (sSeq (sIf (mOr (mNot (mCallB (wIsi nC subC) (mCons (mV 5) (mCons (mC (.ty 5)) mNil)))) (mBin wGt (mCallB wLen (mCons (mV 5) mNil)) (mC (.int 6)))) (sSeq sNever sNil) sNil) (sSeq (sIf (mNot (mCallB wAll (mCons (mLc (mItems (mV 5)) (gTupM 2 (gAnd (gSet 6) (gAnd (gSet 10) gNo))) yes (mAnd (mCall m_is_name [] (mCons (mV 6) mNil)) (mCall m_is_bound_of [] (mCons (mV 1) (mCons (mV 10) mNil)))) [6, 10]) mNil))) (sSeq sNever sNil) sNil) (sSeq (sFldM [1] "most" (mV 0) (mDc (mItems (mV 1)) (gTupM 2 (gAnd (gSet 6) (gAnd (gSet 7) gNo))) yes (mV 6) (mV 7) [6, 7])) (sSeq (sFldM [1] "wants" (mV 0) (mDc (mItems (mV 2)) (gTupM 2 (gAnd (gSet 8) (gAnd (gSet 9) gNo))) (mBin (wCmpB true) (mV 9) (mTup mNil)) (mV 8) (mV 9) [8, 9])) (sSeq (sFldM [1] "clashes" (mV 0) (mCallB wSorted (mCons (mCallB wList (mCons (mDc (mSeq (mV 3)) (gSet 12) yes (mCallB wTuple (mCons (mCallB wSorted (mCons (mCallB wList (mCons (mV 12) mNil)) mNil)) mNil)) (mC (.bl true)) [12]) mNil)) mNil))) (sSeq (sFldM [1] "asked" (mV 0) (mCallB wList (mCons (mV 4) mNil))) (sSeq (sFldM [1] "lines" (mV 0) (mDc (mItems (mV 5)) (gTupM 2 (gAnd (gSet 6) (gAnd (gSet 10) gNo))) yes (mV 6) (mV 10) [6, 10])) sNil)))))))))))))
def m__law_shelf : FM := rsF (mDef 1 5 true (sSeq (sSet 1 mDict0B) (sSeq (sForI (mSeq (mBin wIx (mV 0) (mC (.int 4)))) (gSet 2) (sSeq (sAsg (gTupM 3 (gAnd (gSet 3) (gAnd (gSet 4) (gAnd (gSet 5) gNo)))) (mBin wIx (mBin wIx (mV 0) (mC (.int 4))) (mV 2))) (sSeq (sPut (mV 1) (mV 2) (mRs (mMakeK 0 4 1 m_Bound_init true (mCons (mBin wIx (mV 3) (mC (.int 0))) (mCons (mBin wIx (mV 3) (mC (.int 1))) (mCons (mBin wIx (mV 4) (mC (.int 0))) (mCons (mBin wIx (mV 4) (mC (.int 1))) mNil)))) (mCons (mV 5) mNil)))) sNil))) (sSeq (sFrz 1) (sSeq (sRet (mRs (mMake 1 m_Shelf_init [] true (mCons (mBin wIx (mV 0) (mC (.int 0))) (mCons (mBin wIx (mV 0) (mC (.int 1))) (mCons (mBin wIx (mV 0) (mC (.int 2))) (mCons (mBin wIx (mV 0) (mC (.int 3))) (mCons (mV 1) mNil)))))))) sNil)))))
def m_Shelf_packages : FM := rsF (mDef 1 2 true (sSeq (sRet (mDc (mItems (mFld [1] "most" (mV 0))) (gTupM 2 (gAnd (gSet 1) (gAnd (gSet 2) gNo))) yes (mV 1) (mV 2) [1, 2])) sNil))
def m_Shelf_requests : FM := rsF (mDef 1 0 true (sSeq (sRet (mCallB wList (mCons (mFld [1] "asked" (mV 0)) mNil))) sNil))
def m_Shelf_names : FM := rsF (mDef 1 0 true (sSeq (sRet (mCallB wList (mCons (mFld [1] "lines" (mV 0)) mNil))) sNil))
def m_needed : FM := rsF (mDef 2 0 true (sSeq (sRet (mMeth isD fGet (mFld [1] "wants" (mV 0)) (mCons (mV 1) (mCons (mTup mNil) mNil)))) sNil))
def m_Shelf_needs : FM := rsF (mDef 2 0 true (sSeq (sIf (mNot (mCall m_is_item [] (mCons (mFld [1] "most" (mV 0)) (mCons (mV 1) mNil)))) (sSeq sNever sNil) sNil) (sSeq (sRet (mCall m_needed [] (mCons (mV 0) (mCons (mV 1) mNil)))) sNil)))
def m_Shelf___getitem__ : FM := rsF (mDef 2 0 true (sSeq (sIf (mOr (mNot (mCallB (wIsi nC subC) (mCons (mV 1) (mCons (mC (.ty 1)) mNil)))) (mBin (wIn true) (mV 1) (mFld [1] "lines" (mV 0)))) (sSeq sNever sNil) sNil) (sSeq (sRet (mBin wIx (mFld [1] "lines" (mV 0)) (mV 1))) sNil)))
def mq__getitem___Shelf : Nat -> Option FM := fun c => match Nat.beq c 1 with
  | true => some m_Shelf___getitem__
  | false => none
def m_Bound_versions : FM := rsF (mDef 1 0 true (sSeq (sRet (mBin wIx (mBin wIx (mFld [0] "sides" (mV 0)) (mC (.int 0))) (mC (.int 1)))) sNil))
def m_Bound_first : FM := rsF (mDef 1 0 true (sSeq (sRet (mBin wIx (mBin wIx (mFld [0] "sides" (mV 0)) (mC (.int 0))) (mC (.int 0)))) sNil))
def m_Bound_others : FM := rsF (mDef 1 0 true (sSeq (sRet (mBin wIx (mBin wIx (mFld [0] "sides" (mV 0)) (mC (.int 1))) (mC (.int 1)))) sNil))
def m_Bound_second : FM := rsF (mDef 1 0 true (sSeq (sRet (mBin wIx (mBin wIx (mFld [0] "sides" (mV 0)) (mC (.int 1))) (mC (.int 0)))) sNil))
def m_Bound_cost : FM := rsF (mDef 1 0 true (sSeq (sRet (mFld [0] "charge" (mV 0))) sNil))
def m_Bound___neg__ : FM := rsF (mDef 1 0 true (sSeq (sRet (mRs (mMakeK 0 4 1 m_Bound_init true (mCons (mBin wIx (mBin wIx (mFld [0] "sides" (mV 0)) (mC (.int 1))) (mC (.int 0))) (mCons (mBin wIx (mBin wIx (mFld [0] "sides" (mV 0)) (mC (.int 1))) (mC (.int 1))) (mCons (mBin wIx (mBin wIx (mFld [0] "sides" (mV 0)) (mC (.int 0))) (mC (.int 0))) (mCons (mBin wIx (mBin wIx (mFld [0] "sides" (mV 0)) (mC (.int 0))) (mC (.int 1))) mNil)))) (mCons (mFld [0] "charge" (mV 0)) mNil)))) sNil))
def mq__neg___Bound : Nat -> Option FM := fun c => match Nat.beq c 0 with
  | true => some m_Bound___neg__
  | false => none
def m_Bound___eq__ : FM := rsF (mDef 2 0 true (sSeq (sRet (mAnd (mCallB (wIsi nC subC) (mCons (mV 1) (mCons (mC (.cl 0)) mNil))) (mAnd (mBin (wCmpB false) (mFld [0] "sides" (mV 0)) (mFld [0] "sides" (mV 1))) (mBin (wCmpB false) (mFld [0] "charge" (mV 0)) (mFld [0] "charge" (mV 1)))))) sNil))
def mq__eq___Bound : Nat -> Option FM := fun c => match Nat.beq c 0 with
  | true => some m_Bound___eq__
  | false => none
def m_Shelf___contains__ : FM := rsF (mDef 2 0 true (sSeq (sRet (mAnd (mCallB (wIsi nC subC) (mCons (mV 1) (mCons (mC (.ty 1)) mNil))) (mBin (wIn false) (mV 1) (mFld [1] "lines" (mV 0))))) sNil))
def mq__contains___Shelf : Nat -> Option FM := fun c => match Nat.beq c 1 with
  | true => some m_Shelf___contains__
  | false => none
def m_Shelf_all_parts : FM := rsF (mDef 1 0 true (sSeq (sRet (mLst (mCons (mLstIt (mFld [1] "most" (mV 0))) (mCons (mFld [1] "wants" (mV 0)) (mCons (mFld [1] "clashes" (mV 0)) (mCons (mFld [1] "asked" (mV 0)) (mCons (mLstIt (mFld [1] "lines" (mV 0))) mNil))))))) sNil))
def m_Shelf___eq__ : FM := rsF (mDef 2 0 true (sSeq (sRet (mAnd (mCallB (wIsi nC subC) (mCons (mV 1) (mCons (mC (.cl 1)) mNil))) (mBin (wEqO mq__eq___Bound) (mMt0 1 "all_parts" m_Shelf_all_parts (mV 0)) (mMt0 1 "all_parts" m_Shelf_all_parts (mV 1))))) sNil))
def mq__eq___Shelf : Nat -> Option FM := fun c => match Nat.beq c 1 with
  | true => some m_Shelf___eq__
  | false => none
def m_Shelf___len__ : FM := rsF (mDef 1 0 true (sSeq (sRet (mCallB wLen (mCons (mFld [1] "lines" (mV 0)) mNil))) sNil))
def mq__len___Shelf : Nat -> Option FM := fun c => match Nat.beq c 1 with
  | true => some m_Shelf___len__
  | false => none
def m__law_equal_right : FM := rsF (mDef 2 10 true (sSeq (sAsg (gTupM 5 (gAnd (gSet 6) (gAnd (gSet 7) (gAnd (gSet 8) (gAnd (gSet 9) (gAnd (gSet 10) gNo)))))) (mV 0)) (sSeq (sIf (mOr (mBin (wCmpB true) (mCallB (wLenO mq__len___Shelf) (mCons (mV 1) mNil)) (mCallB wLen (mCons (mV 10) mNil))) (mOr (mBin (wInO false mq__contains___Shelf) (mC (.str "zzz")) (mV 1)) (mNot (mBin (wEqO mq__eq___Shelf) (mV 1) (mCall m__law_shelf [] (mCons (mV 0) mNil)))))) (sSeq (sRet (mC (.bl false))) sNil) sNil) (sSeq (sSet 2 (mBin wAdd (mRevL (mLc (mSeq (mV 8)) (gTupM 2 (gAnd (gSet 11) (gAnd (gSet 4) gNo))) yes (mTup (mCons (mV 4) (mCons (mV 11) mNil))) [4, 11])) (mSl (mV 8) oNone (oSome (mC (.int 1)))))) (sSeq (sSet 3 (mCallB wDictA (mCons (mRevL (mLstIt (mV 7))) mNil))) (sSeq (sIf (mNot (mBin (wEqO mq__eq___Shelf) (mV 1) (mCall m__law_shelf [] (mCons (mTup (mCons (mV 6) (mCons (mV 3) (mCons (mV 2) (mCons (mV 9) (mCons (mV 10) mNil)))))) mNil)))) (sSeq (sRet (mC (.bl false))) sNil) sNil) (sSeq (sSet 4 (mCall m__law_shelf [] (mCons (mTup (mCons (mV 6) (mCons (mV 7) (mCons (mV 8) (mCons (mRevL (mV 9)) (mCons (mV 10) mNil)))))) mNil))) (sSeq (sIf (mBin (wCmpB true) (mBin (wEqO mq__eq___Shelf) (mV 1) (mV 4)) (mBin (wCmpB false) (mV 9) (mRevL (mV 9)))) (sSeq (sRet (mC (.bl false))) sNil) sNil) (sSeq (sSet 5 (mCallB wDictA (mCons (mRevL (mLstIt (mV 10))) mNil))) (sSeq (sRet (mBin (wCmpB false) (mBin (wEqO mq__eq___Shelf) (mV 1) (mCall m__law_shelf [] (mCons (mTup (mCons (mV 6) (mCons (mV 7) (mCons (mV 8) (mCons (mV 9) (mCons (mV 5) mNil)))))) mNil))) (mBin wLt (mCallB wLen (mCons (mV 10) mNil)) (mC (.int 2))))) sNil))))))))))
def m__law_one_right : FM := rsF (mDef 1 13 true (sSeq (sSet 1 (mCall m__law_drawn [] (mCons (mV 0) (mCons (mC (.int 4)) mNil)))) (sSeq (sAsg (gTupM 5 (gAnd (gSet 4) (gAnd (gSet 5) (gAnd (gSet 6) (gAnd (gSet 7) (gAnd (gSet 8) gNo)))))) (mV 1)) (sSeq (sSet 2 (mCall m__law_shelf [] (mCons (mV 1) mNil))) (sSeq (sIf (mBin (wCmpB true) (mProp 1 m_Shelf_packages (mV 2)) (mV 4)) (sSeq (sRet (mC (.bl false))) sNil) sNil) (sSeq (sIf (mBin (wCmpB true) (mCallB wList (mCons (mProp 1 m_Shelf_packages (mV 2)) mNil)) (mCallB wList (mCons (mV 4) mNil))) (sSeq (sRet (mC (.bl false))) sNil) sNil) (sSeq (sIf (mBin (wCmpB true) (mProp 1 m_Shelf_requests (mV 2)) (mV 7)) (sSeq (sRet (mC (.bl false))) sNil) sNil) (sSeq (sIf (mBin (wCmpB true) (mProp 1 m_Shelf_names (mV 2)) (mCallB wList (mCons (mV 8) mNil))) (sSeq (sRet (mC (.bl false))) sNil) sNil) (sSeq (sForI (mSeq (mV 4)) (gSet 3) (sSeq (sForI (mRng2 (mCons (mC (.int 1)) (mCons (mBin wAdd (mBin wIx (mV 4) (mV 3)) (mC (.int 1))) mNil))) (gSet 9) (sSeq (sIf (mBin (wCmpB true) (mMt 1 "needs" m_Shelf_needs [] (mV 2) (mCons (mTup (mCons (mV 3) (mCons (mV 9) mNil))) mNil)) (mMeth isD fGet (mV 5) (mCons (mTup (mCons (mV 3) (mCons (mV 9) mNil))) (mCons (mTup mNil) mNil)))) (sSeq (sRet (mC (.bl false))) sNil) sNil) sNil)) sNil)) (sSeq (sForI (mSeq (mV 8)) (gSet 3) (sSeq (sAsg (gTupM 3 (gAnd (gSet 11) (gAnd (gSet 12) (gAnd (gSet 13) gNo)))) (mBin wIx (mV 8) (mV 3))) (sSeq (sSet 10 (mBin (wIxO mq__getitem___Shelf) (mV 2) (mV 3))) (sSeq (sIf (mBin (wCmpB true) (mTup (mCons (mProp 0 m_Bound_first (mV 10)) (mCons (mProp 0 m_Bound_versions (mV 10)) mNil))) (mV 11)) (sSeq (sRet (mC (.bl false))) sNil) sNil) (sSeq (sIf (mBin (wCmpB true) (mTup (mCons (mProp 0 m_Bound_second (mV 10)) (mCons (mProp 0 m_Bound_others (mV 10)) mNil))) (mV 12)) (sSeq (sRet (mC (.bl false))) sNil) sNil) (sSeq (sIf (mBin (wCmpB true) (mProp 0 m_Bound_cost (mV 10)) (mV 13)) (sSeq (sRet (mC (.bl false))) sNil) sNil) (sSeq (sIf (mNot (mBin (wEqO mq__eq___Bound) (mNegO mq__neg___Bound (mV 10)) (mRs (mMakeK 0 4 1 m_Bound_init true (mCons (mBin wIx (mV 12) (mC (.int 0))) (mCons (mBin wIx (mV 12) (mC (.int 1))) (mCons (mBin wIx (mV 11) (mC (.int 0))) (mCons (mBin wIx (mV 11) (mC (.int 1))) mNil)))) (mCons (mV 13) mNil))))) (sSeq (sRet (mC (.bl false))) sNil) sNil) (sSeq (sIf (mNot (mBin (wEqO mq__eq___Bound) (mNegO mq__neg___Bound (mNegO mq__neg___Bound (mV 10))) (mV 10))) (sSeq (sRet (mC (.bl false))) sNil) sNil) (sSeq (sIf (mBin (wInO true mq__contains___Shelf) (mV 3) (mV 2)) (sSeq (sRet (mC (.bl false))) sNil) sNil) sNil))))))))) (sSeq (sRet (mCall m__law_equal_right [] (mCons (mV 1) (mCons (mV 2) mNil)))) sNil)))))))))))
def m_law : FM := rsF (mDef 1 1 true (sSeq (sForI (mRng3 (mCons (mC (.int 0)) (mCons (mCallB wMax2 (mCons (mC (.int 1)) (mCons (mCallB wMin2 (mCons (mC (.int 24)) (mCons (mCallB wLen (mCons (mV 0) mNil)) mNil))) mNil))) (mCons (mC (.int 3)) mNil)))) (gSet 1) (sSeq (sIf (mNot (mCall m__law_one_right [] (mCons (mBox (mCons (mV 0) (mCons (mV 1) (mCons (mC (.int 0)) mNil)))) mNil))) (sSeq (sRet (mC (.bl false))) sNil) sNil) sNil)) (sSeq (sRet (mC (.bl true))) sNil)))
end K31
end
section
namespace Mi
open PySem PySem.Spec PyProof.Rows L2 PySem.W
section
variable {α : Type} {e : α -> W} {kf : α -> W} {lf : FM}
theorem allD_of {f : PyData -> Bool} : ∀ {r : List α}, (∀ a ∈ r, f (toD (kf a)) = true) -> allD f (toDs (r.map kf)) = true
  | [], _ => rfl
  | a :: r, hf => by
    rw [List.map_cons, toDs, allD, hf a List.mem_cons_self]
    exact allD_of fun b hb => hf b (List.mem_cons_of_mem _ hb)
theorem ord_go {l : List α} (sh : ∀ a ∈ l, ∀ b ∈ l, sameSh (toD (kf a)) (toD (kf b)) = true) (k : (∀ a ∈ l, tupNe (toD (kf a)) = true) \/ ∀ a ∈ l, notTN (toD (kf a)) = true) : ordOk (toDs (l.map kf)) = true := by
  cases l with
  | nil => rfl
  | cons a r =>
    have e1 : allD (sameSh (toD (kf a))) (toDs ((a :: r).map kf)) = true := allD_of fun b hb => sh a List.mem_cons_self b hb
    rw [List.map_cons, toDs] at e1 ⊢
    unfold ordOk
    simp only [e1]
    rcases k with k | k
    · have e2 : allD tupNe (toDs ((a :: r).map kf)) = true := allD_of k
      rw [List.map_cons, toDs] at e2
      simp only [e2]
    · have e2 : allD notTN (toDs ((a :: r).map kf)) = true := allD_of k
      rw [List.map_cons, toDs] at e2
      cases e3 : allD tupNe (toD (kf a) :: toDs (r.map kf)) with
      | true => simp only [e3]
      | false => simp only [e3]; exact e2
end
end Mi
end
section
namespace K31
open PySem PySem.Spec PyProof.Rows L2 Mi
abbrev Item : Type := Str × Int
abbrev Side : Type := Str × List Int
abbrev Row : Type := Side × Side × Int
def eItem (q : Item) : W := .tup [.str q.1, .int q.2]
def eT (l : List Str) : W := .tup (l.map fun s => W.str s)
def eP (p : List Int) : W := .tup (p.map fun i => W.int i)
def ePair (q : Item × Item) : W := .tup [eItem q.1, eItem q.2]
def eSide (s : Side) : W := .tup [.str s.1, .tup (s.2.map fun i => W.int i)]
def eBound (r : Row) : W := .ins 0 ["sides", "charge"] [.tup [eSide r.1, eSide r.2.1], .int r.2.2]
structure Sh where
  pk : List Item
  wants : List (Item × List Str)
  cl : List (Item × Item)
  asked : List (List Str)
  rows : List (Str × Row)
abbrev Sh.names (s : Sh) : List Str := s.pk.map (·.1)
abbrev Sh.counts (s : Sh) : List Int := s.pk.map (·.2)
def Sh.most (s : Sh) : W := .dct (s.names.map fun x => W.str x) (s.counts.map fun i => W.int i)
def Sh.wantsW (s : Sh) : W := .dct ((s.wants.map (·.1)).map eItem) ((s.wants.map (·.2)).map eT)
def Sh.linesW (s : Sh) : W := .dct ((s.rows.map (·.1)).map fun x => W.str x) ((s.rows.map (·.2)).map eBound)
def Sh.w (s : Sh) : W := .ins 1 ["most", "wants", "clashes", "asked", "lines"] [s.most, s.wantsW, .lst (s.cl.map ePair), .lst (s.asked.map eT), s.linesW]
theorem encItem : Enc 2 eItem := enc_pair enc_str enc_int
theorem encT : Enc 2 eT := enc_tup enc_str
theorem encP : Enc 2 eP := enc_tup enc_int
theorem encPair : Enc 3 ePair := enc_pair encItem encItem
def items (names : List Str) (p : List Int) : List Item := (names.zip p).filter fun q => !decide (q.2 = 0)
structure Sh.Ok (s : Sh) : Prop where
  len : s.pk.length <= 5
  nd : s.names.Nodup
  cnt : ∀ q ∈ s.pk, 1 <= q.2 /\ q.2 <= 3
  ask : s.asked.length <= 1000
  askl : ∀ q ∈ s.asked, q.length <= 1000
  cll : s.cl.length <= 1000
  wl : ∀ q ∈ s.wants, q.2.length <= 1000
  rl : s.rows.length <= 1000
  rnd : (s.rows.map (·.1)).Nodup
  rv : ∀ q ∈ s.rows, q.2.1.2.length <= 1000 /\ q.2.2.1.2.length <= 1000
def Sh.need (s : Sh) (it : Item) : List Str := (look it s.wants).getD []
def wantedBy (s : Sh) (req : List Str) (its : List Item) (name : Str) : Bool := decide (name ∈ req) || its.any fun it => decide (name ∈ s.need it)
def nextP (s : Sh) (req : List Str) (p : List Int) : Option Str := (s.names.zip p).findSome? fun q => if decide (q.2 = 0) && wantedBy s req (items s.names p) q.1 then some q.1 else none
def choices (s : Sh) (p : List Int) (at_ : Nat) (count : Int) : List (List Int) := (List.range count.toNat).map fun k : Nat => p.take at_ ++ (1 + (k : Int)) :: p.drop (at_ + 1)
section
variable {h : MH}
theorem needed_eq (ok : h.Ok) (s : Sh) (it : Item) : m_needed [s.w, eItem it] h = .ok (eT (s.need it)) h := by
  refine fn_rt ok rfl ok.over (encT.nr _) (seq_rt (ret_go (meth_go (w := s.wantsW) rfl rfl (cons_go rfl (cons_go (w := eT []) rfl nil_go)) ?_)))
  exact get_dct kenc_item (f := eT) it s.wants [] h
theorem fit62_small {i : Int} (h1 : -100 <= i) (h2 : i <= 100) : fit62 i = true := by
  unfold fit62
  rw [decide_eq_true (show -(2 ^ 62) <= i by omega), decide_eq_true (show i < 2 ^ 62 by omega)]
  rfl
end
def kids (s : Sh) (req : List Str) (p : List Int) : Option (List (List Int)) := (nextP s req p).map fun x => choices s p ((posOf x s.names).getD 0) ((look x s.pk).getD 0)
def zc (p : List Int) : Nat := p.countP fun i => decide (i = 0)
def szN : Nat -> Nat
  | 0 => 1
  | k + 1 => 3 * szN k + 1
def lvN (s : Sh) (req : List Str) : Nat -> List Int -> List (List Int)
  | 0, p => [p]
  | n + 1, p => match kids s req p with
    | none => [p]
    | some ks => ks.flatMap (lvN s req n)
def lv (s : Sh) (req : List Str) (p : List Int) : List (List Int) := lvN s req (zc p) p
def sz (p : List Int) : Nat := szN (zc p)
theorem posOf_at {α : Type} [DecidableEq α] {a : α} : ∀ {l : List α} {i : Nat}, l.Nodup -> l[i]? = some a -> posOf a l = some i
  | b :: r, 0, nd, h => by
    simp at h
    unfold posOf
    rw [if_pos h]
  | b :: r, i + 1, nd, h => by
    rw [List.nodup_cons] at nd
    have h : r[i]? = some a := by simpa using h
    have : b ≠ a := fun z => nd.1 (by rw [z]; exact List.mem_of_getElem? h)
    unfold posOf
    rw [if_neg this, posOf_at nd.2 h]
    rfl
theorem isL_ref {h : MH} {n : Nat} {ws : List W} (e : h.get n = some (.lst ws)) : isL (.ref n) h = true := by
  unfold isL lstOf
  simp only [e]
section
variable {h : MH}
theorem append_go {h : MH} {n : Nat} {w : W} {ws : List W} (e : h.get n = some (.lst ws)) (hl : ws.length <= 100000) : fAppend (.ref n) [w] h = .ok .non (h.set n (.lst (ws ++ [w]))) := by
  have e1 : boxL (.ref n) h = some (n, ws) := by unfold boxL; simp only [e]
  have e2 : Nat.blt ws.length 16777216 = true := Nat.ble_eq_true_of_le (by omega)
  unfold fAppend
  simp only [e1, e2]
end
section
variable {h : MH}
theorem chain_go {F F' : F2} {a b c : EM} {me : Me} {x y z : W} {k l : Bool} {h h1 h2 : MH} (e1 : a me h = .ok x h1) (e2 : b me h1 = .ok y h2) (e3 : F x y h2 = some (.bl k)) (e4 : c me h2 = .ok z h2) (e5 : F' y z h2 = some (.bl l)) : mChain F F' a b c me h = .ok (.bl (k && l)) h2 := by
  unfold mChain
  rw [e1]; simp only [bind_ok]
  rw [e2]; simp only [bind_ok]
  rw [e3]
  cases k with
  | false => rfl
  | true =>
    simp only
    rw [e4]; simp only [bind_ok]
    rw [e5]
    rfl
theorem is_integer_eq (ok : h.Ok) (v lo hi : Int) : m_is_integer [.int v, .int lo, .int hi] h = .ok (.bl (decide (lo <= v) && decide (v <= hi))) h := by
  refine fn_rt ok rfl ok.over rfl (seq_rt (ret_go ?_))
  refine (and_go (k := true) (cb_go (cons_go rfl (cons_go rfl nil_go)) rfl) fun _ => and_go (k := true) (not_go (k := false) (cb_go (cons_go rfl (cons_go rfl nil_go)) rfl)) fun _ => chain_go rfl rfl rfl rfl rfl)
theorem fit62_nat {n : Nat} (h : n <= 100) : fit62 (n : Int) = true := fit62_small (by omega) (by omega)
end
section
variable {h : MH}
def NM : List Str := ["lib", "app", "core", "b", "old", "a", "new", "z"]
theorem is_name_eq (ok : h.Ok) {x : Str} (hx : x ∈ NM) : m_is_name [.str x] h = .ok (.bl true) h := by
  refine fn_rt (h' := h) ok rfl ok.over rfl ?_
  simp only [NM, List.mem_cons, List.not_mem_nil, or_false] at hx
  rcases hx with rfl | rfl | rfl | rfl | rfl | rfl | rfl | rfl <;> kernel_rfl
structure VersOk (l : List Int) (c : Int) : Prop where
  ne : l ≠ []
  rng : ∀ v ∈ l, 1 <= v /\ v <= c
  up : ∀ q ∈ l.zip (l.drop 1), q.1 < q.2
  len : l.length <= 1000
theorem are_versions_eq (ok : h.Ok) {l : List Int} {c : Int} (v : VersOk l c) (hc : c <= 3) : m_are_versions [.tup (l.map fun i => W.int i)] h = .ok (.bl true) h := by
  have ll := v.len
  refine fn_rt ok rfl ok.over rfl (guard_go (or_go (k := false) (l := false) (not_go (k := true) (cb_go (cons_go rfl (cons_go rfl nil_go)) rfl)) fun _ => or_go (k := false) (l := false) (bin_go (y := eP []) rfl rfl ?_) fun _ => not_go (k := true) ?_) (seq_rt (ret_go ?_)))
  · rw [show (W.tup (l.map fun i => W.int i)) = eP l from rfl, cmp_eq encP (by decide), decide_eq_false v.ne]
  · refine cb_go (cons_go (lc_all (xs := l) (enc := fun i => W.int i) (f := fun i : Int => W.bl (decide (1 <= i) && decide (i <= 3))) (seqm_go rfl rfl) (by omega) fun i _ => ⟨_, rfl, call_go (cons_go rfl (cons_go rfl (cons_go rfl nil_go))) (is_integer_eq ok _ _ _)⟩) nil_go) ?_
    rw [all_go (fun i : Int => decide (1 <= i) && decide (i <= 3)), List.all_eq_true.mpr fun i hi => ?_]
    have := v.rng i hi
    rw [decide_eq_true this.1, decide_eq_true (show i <= 3 by omega)]
    rfl
  · have e : (mZip (mCons (mV 0) (mCons (mSl (mV 0) (oSome (mC (.int 1))) oNone) mNil))) [some (.tup (l.map fun i => W.int i)), none, none] h = .ok ((l.zip (l.drop 1)).map fun q : Int × Int => W.tup [.int q.1, .int q.2]) h := by
      rw [<- zipW_map]
      refine zip_go (b := .tup ((l.drop 1).map fun i => W.int i)) (cons_go rfl (cons_go (sl_go rfl (os_go rfl) rfl ?_) nil_go)) rfl rfl
      show some (W.tup (cutW (l.map fun i => W.int i) (some 1) none)) = _
      exact congrArg (fun z => some (W.tup z)) (cut_drop (fun i => W.int i) l 1)
    refine cb_go (cons_go (lc_all (xs := l.zip (l.drop 1)) (enc := fun q : Int × Int => W.tup [.int q.1, .int q.2]) (f := fun q : Int × Int => W.bl (decide (q.1 < q.2))) e (by rw [List.length_zip]; omega) fun q _ => ⟨_, rfl, bin_go rfl rfl rfl⟩) nil_go) ?_
    rw [all_go (fun q : Int × Int => decide (q.1 < q.2)), List.all_eq_true.mpr fun q hq => decide_eq_true (v.up q hq)]
structure RowOk (pk : List Item) (r : Row) : Prop where
  n1 : r.1.1 ∈ NM
  n2 : r.2.1.1 ∈ NM
  ne : r.1.1 ≠ r.2.1.1
  v1 : ∃ c, look r.1.1 pk = some c /\ c <= 3 /\ VersOk r.1.2 c
  v2 : ∃ c, look r.2.1.1 pk = some c /\ c <= 3 /\ VersOk r.2.1.2 c
  ch : 1 <= r.2.2 /\ r.2.2 <= 9
theorem bound_init_eq (ok : h.Ok) {pk : List Item} {r : Row} (o : RowOk pk r) : m_Bound_init [.ref h.nx, .str r.1.1, .tup (r.1.2.map fun i => W.int i), .str r.2.1.1, .tup (r.2.1.2.map fun i => W.int i), .int r.2.2] (h.new (.ins 0 [] [])) = .ok .non (h.new (.ins 0 ["sides", "charge"] [.tup [eSide r.1, eSide r.2.1], .int r.2.2])) := by
  obtain ⟨c1, _, d1, w1⟩ := o.v1
  obtain ⟨c2, _, d2, w2⟩ := o.v2
  have nrS : ∀ s : Side, noRef (eSide s) = true := fun s => by
    show (noRef (.str s.1) && (noRef (.tup (s.2.map fun i => W.int i)) && true)) = true
    rw [noRef_tup enc_int]; rfl
  have nr : noRefO (.ins 0 ["sides", "charge"] [.tup [eSide r.1, eSide r.2.1], .int r.2.2]) = true := by
    show (noRef (.tup [eSide r.1, eSide r.2.1]) && _) = true
    show ((noRef (eSide r.1) && (noRef (eSide r.2.1) && true)) && _) = true
    rw [nrS, nrS]; rfl
  have ok0 : (h.new (.ins 0 [] [])).Ok := ok.new rfl
  have ok1 := ok.new nr
  refine fst_nx (me := [some (.ref h.nx), some (.str r.1.1), some (.tup (r.1.2.map fun i => W.int i)), some (.str r.2.1.1), some (.tup (r.2.1.2.map fun i => W.int i)), some (.int r.2.2)]) (h2 := (h.new (.ins 0 ["sides", "charge"] [.tup [eSide r.1, eSide r.2.1], .int r.2.2]))) ok1 rfl rfl ok1.over (guard_go ?_ (guard_go ?_ (guard_go ?_ (seq_go (fld_go (tup_go (cons_go (tup_go (cons_go rfl (cons_go rfl nil_go)) rfl) (cons_go (tup_go (cons_go rfl (cons_go rfl nil_go)) rfl) nil_go)) rfl) rfl get_new rfl rfl) (seq_go ?_ rfl)))))
  · refine or_go (k := false) (l := false) (not_go (k := true) (call_go (cons_go rfl nil_go) (is_name_eq ok0 o.n1))) fun _ => or_go (k := false) (l := false) (not_go (k := true) (call_go (cons_go rfl nil_go) (is_name_eq ok0 o.n2))) fun _ => bin_go rfl rfl ?_
    rw [cmp_eq enc_str (by decide), decide_eq_false o.ne]
  · exact or_go (k := false) (l := false) (not_go (k := true) (call_go (cons_go rfl nil_go) (are_versions_eq ok0 w1 d1))) fun _ => not_go (k := true) (call_go (cons_go rfl nil_go) (are_versions_eq ok0 w2 d2))
  · refine not_go (k := true) (call_go (cons_go rfl (cons_go rfl (cons_go rfl nil_go))) ((is_integer_eq ok0 _ _ _).trans ?_))
    rw [decide_eq_true o.ch.1, decide_eq_true o.ch.2]
    rfl
  · rw [set_new]
    refine (fld_go (w := .int r.2.2) rfl rfl get_new rfl rfl).trans ?_
    rw [set_new]
    rfl
theorem bound_make (ok : h.Ok) {pk : List Item} {r : Row} (o : RowOk pk r) {as az : AM} {me : Me} (e : as me h = .ok [.str r.1.1, .tup (r.1.2.map fun i => W.int i), .str r.2.1.1, .tup (r.2.1.2.map fun i => W.int i)] h) (ez : az me h = .ok [.int r.2.2] h) : mRs (mMakeK 0 4 1 m_Bound_init true as az) me h = .ok (eBound r) h := by
  refine makeK_go ok e ez rfl rfl (bound_init_eq ok o) ?_
  have nrS : ∀ s : Side, noRef (eSide s) = true := fun s => by
    show (noRef (.str s.1) && (noRef (.tup (s.2.map fun i => W.int i)) && true)) = true
    rw [noRef_tup enc_int]; rfl
  show ((noRef (eSide r.1) && (noRef (eSide r.2.1) && true)) && _) = true
  rw [nrS, nrS]; rfl
end
def ItemOk (pk : List Item) (it : Item) : Prop := ∃ c, look it.1 pk = some c /\ c <= 3 /\ 1 <= it.2 /\ it.2 <= c
structure WantOk (pk : List Item) (q : Item × List Str) : Prop where
  it : ItemOk pk q.1
  sub : ∀ x ∈ q.2, x ∈ pk.map (·.1)
  nin : q.1.1 ∉ q.2
  nd : q.2.Nodup
  len : q.2.length <= 1000
structure Dr (d : Sh) : Prop where
  len2 : 2 <= d.pk.length
  len5 : d.pk.length <= 5
  nd : d.names.Nodup
  nm : ∀ x ∈ d.names, x ∈ NM
  cnt : ∀ q ∈ d.pk, 1 <= q.2 /\ q.2 <= 3
  wl : d.wants.length <= 1000
  wnd : (d.wants.map (·.1)).Nodup
  wok : ∀ q ∈ d.wants, WantOk d.pk q
  cll : d.cl.length <= 1000
  clo : ∀ q ∈ d.cl, ItemOk d.pk q.1 /\ ItemOk d.pk q.2 /\ q.1.1 ≠ q.2.1
  as1 : 1 <= d.asked.length
  as3 : d.asked.length <= 3
  aso : ∀ q ∈ d.asked, q ≠ [] /\ q = d.names.filter fun x => decide (x ∈ q)
  rl : d.rows.length <= 6
  rnd : (d.rows.map (·.1)).Nodup
  rnm : ∀ x ∈ d.rows.map (·.1), x ∈ NM
  ro : ∀ q ∈ d.rows, RowOk d.pk q.2
theorem Dr.ok {d : Sh} (o : Dr d) : d.Ok where
  len := o.len5
  nd := o.nd
  cnt := o.cnt
  ask := Nat.le_trans o.as3 (by decide)
  askl := fun q hq => by
    rw [(o.aso q hq).2]
    refine Nat.le_trans (List.length_filter_le _ _) ?_
    rw [List.length_map]
    exact Nat.le_trans o.len5 (by decide)
  cll := o.cll
  wl := fun q hq => (o.wok q hq).len
  rl := Nat.le_trans o.rl (by decide)
  rnd := o.rnd
  rv := fun q hq => by
    obtain ⟨_, _, _, w1⟩ := (o.ro q hq).v1
    obtain ⟨_, _, _, w2⟩ := (o.ro q hq).v2
    exact ⟨w1.len, w2.len⟩
def ord (q : Item × Item) : Item × Item := match sortE eItem [q.1, q.2] with
  | [a, b] => (a, b)
  | _ => q
theorem ord_is (q : Item × Item) : sortE eItem [q.1, q.2] = [(ord q).1, (ord q).2] /\ (ord q = q \/ ord q = (q.2, q.1)) := by
  have p := sortE_perm eItem [q.1, q.2]
  have l := p.length_eq
  unfold ord
  rcases e : sortE eItem [q.1, q.2] with _ | ⟨a, _ | ⟨b, _ | ⟨c, r⟩⟩⟩ <;> rw [e] at l p <;> simp at l
  refine ⟨rfl, ?_⟩
  have ha : a ∈ [q.1, q.2] := p.subset List.mem_cons_self
  simp only [List.mem_cons, List.not_mem_nil, or_false] at ha
  dsimp only
  rcases ha with rfl | rfl
  · have := (List.perm_cons _).mp p
    have hb : b ∈ [q.2] := this.subset List.mem_cons_self
    rw [List.mem_singleton.mp hb]
    exact .inl rfl
  · have := (List.perm_cons _).mp (p.trans (List.Perm.swap _ _ _))
    have hb : b ∈ [q.1] := this.subset List.mem_cons_self
    rw [List.mem_singleton.mp hb]
    exact .inr rfl
def clOf (l : List (Item × Item)) : List (Item × Item) := sortE ePair ((l.foldl (fun a q => dput (ord q) true a) []).map Prod.fst)
theorem clOf_len (l : List (Item × Item)) : (clOf l).length <= l.length := by
  unfold clOf
  rw [(sortE_perm ePair _).length_eq, List.length_map]
  have := fold_len (kf := ord) (vf := fun _ => true) (xs := l) (acc := [])
  simpa using this
def Sh.shelf (d : Sh) : Sh := ⟨d.pk, d.wants.filter fun q => !decide (q.2 = []), clOf d.cl, d.asked, d.rows⟩
theorem Dr.sok {d : Sh} (o : Dr d) : d.shelf.Ok where
  len := o.len5
  nd := o.nd
  cnt := o.cnt
  ask := o.ok.ask
  askl := o.ok.askl
  cll := Nat.le_trans (clOf_len _) o.cll
  wl := fun q hq => o.ok.wl q (List.mem_filter.mp hq).1
  rl := o.ok.rl
  rnd := o.rnd
  rv := o.ok.rv
theorem kenc_pair : KEnc ePair := ⟨fun a b => by
  have k := kenc_item.eq
  show (match kEq (eItem a.1) (eItem b.1) with | true => (match kEq (eItem a.2) (eItem b.2) with | true => true | false => false) | false => false) = _
  rw [show kEq (eItem a.1) (eItem b.1) = _ from k _ _, show kEq (eItem a.2) (eItem b.2) = _ from k _ _]
  obtain ⟨a1, a2⟩ := a
  obtain ⟨b1, b2⟩ := b
  by_cases h1 : a1 = b1 <;> by_cases h2 : a2 = b2 <;> simp [h1, h2], .inr ⟨fun _ => rfl, fun _ => rfl⟩⟩
section
variable {h : MH}
theorem is_item_eq (ok : h.Ok) (pk : List Item) {it : Item} (o : ItemOk pk it) : m_is_item [dctW (fun x : Str => W.str x) (fun i : Int => W.int i) pk, eItem it] h = .ok (.bl true) h := by
  obtain ⟨c, lc, c3, v1, v2⟩ := o
  have hm : it.1 ∈ pk.map Prod.fst := List.mem_map.mpr ⟨_, look_mem lc, rfl⟩
  refine fn_rt ok rfl ok.over rfl (guard_go (or_go (k := false) (l := false) (not_go (k := true) (cb_go (cons_go rfl (cons_go rfl nil_go)) rfl)) fun _ => or_go (k := false) (l := false) (bin_go (cb_go (cons_go rfl nil_go) rfl) rfl rfl) fun _ => or_go (k := false) (l := false) (not_go (k := true) (cb_go (cons_go (bin_go rfl rfl rfl) (cons_go rfl nil_go)) rfl)) fun _ => bin_go (x := .str it.1) (bin_go rfl rfl rfl) rfl ?_) (seq_rt (ret_go (call_go (cons_go (w := .int it.2) (bin_go rfl rfl rfl) (cons_go rfl (cons_go (w := .int c) (bin_go (x := dctW (fun x : Str => W.str x) (fun i : Int => W.int i) pk) (y := .str it.1) rfl (bin_go rfl rfl rfl) (ix_dct kenc_str h lc)) nil_go))) ((is_integer_eq ok _ _ _).trans ?_)))))
  · refine (nmem_dct kenc_str it.1 _ _ h).trans ?_
    rw [decide_eq_true hm]
    rfl
  · rw [decide_eq_true v1, decide_eq_true v2]
    rfl
theorem are_packages_eq (ok : h.Ok) {d : Sh} (o : Dr d) : m_are_packages [d.most] h = .ok (.bl true) h := by
  have l2 := o.len2
  have l5 := o.len5
  refine fn_rt ok rfl ok.over rfl (guard_go (or_go (k := false) (l := false) (not_go (k := true) (cb_go (cons_go rfl (cons_go rfl nil_go)) rfl)) fun _ => not_go (k := true) ?_) (seq_rt (ret_go ?_)))
  · refine (chain_go (y := .int ((d.names.map fun x => W.str x).length : Nat)) rfl (cb_go (cons_go rfl nil_go) rfl) rfl rfl rfl).trans ?_
    rw [List.length_map, List.length_map]
    show R.ok (W.bl (decide ((2 : Int) <= (d.pk.length : Nat)) && decide (((d.pk.length : Nat) : Int) <= 5))) h = _
    rw [decide_eq_true (show (2 : Int) <= (d.pk.length : Nat) by omega), decide_eq_true (show ((d.pk.length : Nat) : Int) <= 5 by omega)]
    rfl
  · refine cb_go (cons_go (lc_all (xs := d.pk) (enc := fun q : Item => W.tup [.str q.1, .int q.2]) (f := fun _ : Item => W.bl true) ?_ (by omega) fun q hq => ⟨_, rfl, ?_⟩) nil_go) ?_
    · exact (items_go rfl).trans (congrArg (fun z => R.ok z h) (zip_items (fun x : Str => W.str x) (fun i : Int => W.int i) d.pk))
    · have c := o.cnt q hq
      refine and_go (k := true) (l := true) (call_go (cons_go rfl nil_go) (is_name_eq ok (o.nm q.1 (List.mem_map_of_mem (f := (·.1)) hq)))) fun _ => call_go (cons_go rfl (cons_go rfl (cons_go rfl nil_go))) ((is_integer_eq ok _ _ _).trans ?_)
      rw [decide_eq_true c.1, decide_eq_true c.2]
      rfl
    · rw [all_go (fun _ : Item => true), List.all_eq_true.mpr fun _ _ => rfl]
theorem are_others_eq (ok : h.Ok) (pk : List Item) {q : Item × List Str} (o : WantOk pk q) : m_are_others [dctW (fun x : Str => W.str x) (fun i : Int => W.int i) pk, .str q.1.1, eT q.2] h = .ok (.bl true) h := by
  have ln := o.len
  refine fn_rt ok rfl ok.over rfl (guard_go (or_go (k := false) (l := false) (not_go (k := true) (cb_go (cons_go rfl (cons_go rfl nil_go)) rfl)) fun _ => not_go (k := true) ?_) (seq_rt (ret_go ?_)))
  · refine cb_go (cons_go (lc_all (xs := q.2) (enc := fun x => W.str x) (f := fun x : Str => W.bl (decide (x ∈ pk.map Prod.fst))) (seqm_go rfl rfl) (by omega) fun x hx => ⟨_, rfl, ?_⟩) nil_go) ?_
    · have := and_go (a := mCallB (wIsi nC subC) (mCons (mV 3) (mCons (mC (.ty 1)) mNil))) (b := mBin (wIn false) (mV 3) (mV 0)) (me := put (wipeW [some (dctW (fun x : Str => W.str x) (fun i : Int => W.int i) pk), some (.str q.1.1), some (eT q.2), none] [3]) 3 (.str x)) (k := true) (l := decide (x ∈ pk.map Prod.fst)) (h := h) (h1 := h) (cb_go (cons_go rfl (cons_go rfl nil_go)) rfl) fun _ => bin_go rfl rfl (mem_dct kenc_str x _ _ h)
      exact this
    · rw [all_go (fun x : Str => decide (x ∈ pk.map Prod.fst)), List.all_eq_true.mpr fun x hx => decide_eq_true (o.sub x hx)]
  · have e1 : (mBin (wIn true) (mV 1) (mV 2)) [some (dctW (fun x : Str => W.str x) (fun i : Int => W.int i) pk), some (.str q.1.1), some (eT q.2), none] h = .ok (.bl true) h := by
      refine bin_go rfl rfl ((nmem_tup enc_str (by decide) q.1.1 q.2 h).trans ?_)
      rw [decide_eq_false o.nin]; rfl
    have e2 : (mDc (mSeq (mV 2)) (gSet 3) yes (mV 3) (mC (.bl true)) [3]) [some (dctW (fun x : Str => W.str x) (fun i : Int => W.int i) pk), some (.str q.1.1), some (eT q.2), none] h = .ok (dctW (fun x : Str => W.str x) (fun b : Bool => W.bl b) (q.2.map fun x => (x, true))) h := by
      refine (dc_go kenc_str (f := fun b : Bool => W.bl b) (xs := q.2) (enc := fun x => W.str x) (p := fun _ => true) (kf := fun x : Str => x) (vf := fun _ => true) (seqm_go rfl rfl) (by omega) fun x _ => ⟨_, rfl, rfl, fun _ => ⟨rfl, rfl⟩⟩).trans ?_
      rw [List.filter_eq_self.mpr (fun _ _ => rfl), fold_new (by simpa using o.nd)]
      rfl
    refine and_go (k := true) (l := true) e1 fun _ => bin_go (cb_go (cons_go e2 nil_go) rfl) (cb_go (cons_go rfl nil_go) rfl) ?_
    rw [cmp_eq enc_int (by decide)]
    simp
theorem are_needs_eq (ok : h.Ok) {d : Sh} (o : Dr d) : m_are_needs [d.most, d.wantsW] h = .ok (.bl true) h := by
  have wl := o.wl
  refine fn_rt ok rfl ok.over rfl (guard_go (not_go (k := true) (cb_go (cons_go rfl (cons_go rfl nil_go)) rfl)) (seq_rt (ret_go ?_)))
  refine cb_go (cons_go (lc_all (xs := d.wants) (enc := fun q : Item × List Str => W.tup [eItem q.1, eT q.2]) (f := fun _ : Item × List Str => W.bl true) ?_ (by omega) fun q hq => ⟨_, rfl, ?_⟩) nil_go) ?_
  · exact (items_go rfl).trans (congrArg (fun z => R.ok z h) (zip_items eItem eT d.wants))
  · exact and_go (k := true) (l := true) (call_go (cons_go rfl (cons_go rfl nil_go)) (is_item_eq ok d.pk (o.wok q hq).it)) fun _ => call_go (cons_go rfl (cons_go (w := .str q.1.1) (bin_go rfl rfl rfl) (cons_go rfl nil_go))) (are_others_eq ok d.pk (o.wok q hq))
  · rw [all_go (fun _ : Item × List Str => true), List.all_eq_true.mpr fun _ _ => rfl]
theorem is_break_eq (ok : h.Ok) {d : Sh} {q : Item × Item} (o : ItemOk d.pk q.1 /\ ItemOk d.pk q.2 /\ q.1.1 ≠ q.2.1) : m_is_break [d.most, ePair q] h = .ok (.bl true) h := by
  refine fn_rt ok rfl ok.over rfl (guard_go (or_go (k := false) (l := false) (not_go (k := true) (cb_go (cons_go rfl (cons_go rfl nil_go)) rfl)) fun _ => or_go (k := false) (l := false) (bin_go (cb_go (cons_go rfl nil_go) rfl) rfl rfl) fun _ => not_go (k := true) ?_) (seq_rt (ret_go (bin_go (x := .str q.1.1) (y := .str q.2.1) (bin_go (bin_go rfl rfl rfl) rfl rfl) (bin_go (bin_go rfl rfl rfl) rfl rfl) ?_))))
  · refine cb_go (cons_go (lc_all (xs := [q.1, q.2]) (enc := eItem) (f := fun _ : Item => W.bl true) (seqm_go rfl rfl) (by simp) fun it hit => ⟨_, rfl, ?_⟩) nil_go) rfl
    refine call_go (cons_go rfl (cons_go rfl nil_go)) (is_item_eq ok d.pk ?_)
    simp only [List.mem_cons, List.not_mem_nil, or_false] at hit
    rcases hit with rfl | rfl
    · exact o.1
    · exact o.2.1
  · rw [cmp_ne enc_str (by decide), decide_eq_false o.2.2]
    rfl
theorem is_request_eq (ok : h.Ok) {d : Sh} (o : Dr d) {q : List Str} (hq : q ∈ d.asked) : m_is_request [d.most, eT q] h = .ok (.bl true) h := by
  obtain ⟨ne, e⟩ := o.aso q hq
  have ln := o.ok.askl q hq
  have l5 := o.len5
  refine fn_rt ok rfl ok.over rfl (guard_go (or_go (k := false) (l := false) (not_go (k := true) (cb_go (cons_go rfl (cons_go rfl nil_go)) rfl)) fun _ => or_go (k := false) (l := false) (bin_go (y := eT []) rfl rfl ?_) fun _ => not_go (k := true) ?_) (seq_rt (ret_go (bin_go (x := .lst (q.map fun x => W.str x)) (y := .lst (q.map fun x => W.str x)) (cb_go (cons_go rfl nil_go) rfl) ?_ ?_))))
  · rw [cmp_eq encT (by decide), decide_eq_false ne]
  · refine cb_go (cons_go (lc_all (xs := q) (enc := fun x => W.str x) (f := fun _ : Str => W.bl true) (seqm_go rfl rfl) (by omega) fun x _ => ⟨_, rfl, cb_go (cons_go rfl (cons_go rfl nil_go)) rfl⟩) nil_go) ?_
    rw [all_go (fun _ : Str => true), List.all_eq_true.mpr fun _ _ => rfl]
  · have := lc_go (xs := d.names) (enc := fun x => W.str x) (f := fun x => W.str x) (p := fun x => decide (x ∈ q)) (src := mSeq (mV 0)) (g := gSet 2) (t := mBin (wIn false) (mV 2) (mV 1)) (e := mV 2) (vs := [2]) (me := [some d.most, some (eT q), none, none]) (h := h) (h1 := h) (seqm_go rfl rfl) (by rw [List.length_map]; omega) fun x _ => ⟨_, rfl, bin_go rfl rfl (mem_tup enc_str (by decide) x q h), fun _ => rfl⟩
    rw [<- e] at this
    exact this
  · rw [cmp_eq (enc_lst enc_str) (by decide)]
    simp
theorem atI_last {α : Type} (f : α -> W) {l : List α} (ne : l ≠ []) : atI (l.map f) (-1) = some (f (l.getLast ne)) := by
  have : 0 < l.length := List.length_pos_iff.mpr ne
  unfold atI ixN
  rw [if_neg (by omega), List.length_map]
  rw [if_pos (by omega)]
  show (l.map f)[((l.length : Int) + -1).toNat]? = _
  rw [show ((l.length : Int) + -1).toNat = l.length - 1 by omega, List.getElem?_map, List.getElem?_eq_getElem (by omega), List.getLast_eq_getElem]
  rfl
theorem is_bound_of_eq (ok : h.Ok) {d : Sh} {r : Row} (o : RowOk d.pk r) : m_is_bound_of [d.most, eBound r] h = .ok (.bl true) h := by
  refine fn_rt ok rfl ok.over rfl (guard_go (not_go (k := true) (cb_go (cons_go rfl (cons_go rfl nil_go)) rfl)) (seq_rt (ret_go ?_)))
  refine cb_go (cons_go (lc_all (xs := [r.1, r.2.1]) (enc := eSide) (f := fun _ : Side => W.bl true) (seqm_go (w := .tup [eSide r.1, eSide r.2.1]) rfl rfl) (by simp) fun sd hsd => ⟨_, rfl, ?_⟩) nil_go) rfl
  have v : ∃ c, look sd.1 d.pk = some c /\ c <= 3 /\ VersOk sd.2 c := by
    simp only [List.mem_cons, List.not_mem_nil, or_false] at hsd
    rcases hsd with rfl | rfl
    · exact o.v1
    · exact o.v2
  obtain ⟨c, lc, _, vo⟩ := v
  have hm : sd.1 ∈ d.pk.map Prod.fst := List.mem_map.mpr ⟨_, look_mem lc, rfl⟩
  refine and_go (k := true) (l := true) (bin_go rfl rfl ((mem_dct kenc_str sd.1 _ _ h).trans (by rw [decide_eq_true hm]))) fun _ => bin_go (x := .int (sd.2.getLast vo.ne)) (y := .int c) (bin_go (x := .tup (sd.2.map fun i => W.int i)) (y := .int (-1)) rfl rfl (atI_last (fun i => W.int i) vo.ne)) (bin_go rfl rfl (ix_dct kenc_str h lc)) ?_
  show some (W.bl (decide (sd.2.getLast vo.ne <= c))) = _
  rw [decide_eq_true (vo.rng _ (List.getLast_mem vo.ne)).2]
end
section
variable {h : MH}
theorem fldn_go {cs : List Nat} {f : Str} {mo mv : EM} {me : Me} {w : W} {c : Nat} {fn : List Str} {fv : List W} (e : mv me (h.new (.ins c fn fv)) = .ok w (h.new (.ins c fn fv))) (e2 : mo me (h.new (.ins c fn fv)) = .ok (.ref h.nx) (h.new (.ins c fn fv))) (m : memN c cs = true) (l : Nat.blt fn.length 900 = true) :
    sFldM cs f mo mv me (h.new (.ins c fn fv)) = .nx me (h.new (.ins c (putFn f fn) (putFv f w fn fv))) := by
  rw [fld_go e e2 get_new m l, set_new]
theorem noRefs_all {α : Type} {f : α -> W} (hf : ∀ a, noRef (f a) = true) : ∀ l : List α, noRefs (l.map f) = true
  | [] => rfl
  | a :: r => by rw [List.map_cons, noRefs, hf, noRefs_all hf r]; rfl
theorem nr_side (s : Side) : noRef (eSide s) = true := by
  show (noRef (.str s.1) && (noRef (.tup (s.2.map fun i => W.int i)) && true)) = true
  rw [noRef_tup enc_int]; rfl
theorem nr_bound (r : Row) : noRef (eBound r) = true := by
  show ((noRef (eSide r.1) && (noRef (eSide r.2.1) && true)) && _) = true
  rw [nr_side, nr_side]; rfl
theorem nr_dct {κ β : Type} {e : κ -> W} {f : β -> W} (he : ∀ a, noRef (e a) = true) (hf : ∀ a, noRef (f a) = true) (l : List (κ × β)) : noRef (dctW e f l) = true := by
  show (noRefs _ && noRefs _) = true
  rw [noRefs_all he, noRefs_all hf]; rfl
theorem nr_sh (s : Sh) : noRefs [s.most, s.wantsW, .lst (s.cl.map ePair), .lst (s.asked.map eT), s.linesW] = true := by
  have a1 : noRef s.most = true := nr_dct (e := fun x : Str => W.str x) (f := fun i : Int => W.int i) (fun _ => rfl) (fun _ => rfl) s.pk
  have a2 : noRef s.wantsW = true := nr_dct encItem.nr encT.nr s.wants
  have a3 : noRef (.lst (s.cl.map ePair)) = true := noRef_lst encPair _
  have a4 : noRef (.lst (s.asked.map eT)) = true := noRef_lst encT _
  have a5 : noRef s.linesW = true := nr_dct (e := fun x : Str => W.str x) (f := eBound) (fun _ => rfl) nr_bound s.rows
  show (noRef s.most && (noRef s.wantsW && (noRef (.lst (s.cl.map ePair)) && (noRef (.lst (s.asked.map eT)) && (noRef s.linesW && true))))) = true
  rw [a1, a2, a3, a4, a5]; rfl
theorem ord_go (q : Item × Item) {me : Me} {i : Nat} (e : (mV i) me h = .ok (ePair q) h) : (mCallB wTuple (mCons (mCallB wSorted (mCons (mCallB wList (mCons (mV i) mNil)) mNil)) mNil)) me h = .ok (ePair (ord q)) h := by
  obtain ⟨o1, _⟩ := ord_is q
  have s : wSorted [.lst ([q.1, q.2].map eItem)] h = some (.lst ((sortE eItem [q.1, q.2]).map eItem)) := sorted_go eItem h (fun _ _ => rfl) (fun _ _ _ _ => rfl) (fun _ _ => rfl) (by simp)
  rw [o1] at s
  exact cb_go (cons_go (cb_go (cons_go (cb_go (z := .lst ([q.1, q.2].map eItem)) (cons_go e nil_go) rfl) nil_go) s) nil_go) rfl
theorem shelf_init_eq (ok : h.Ok) {d : Sh} (o : Dr d) : m_Shelf_init [.ref h.nx, d.most, d.wantsW, .lst (d.cl.map ePair), .lst (d.asked.map eT), d.linesW] (h.new (.ins 1 [] [])) = .ok .non (h.new (.ins 1 ["most", "wants", "clashes", "asked", "lines"] [d.shelf.most, d.shelf.wantsW, .lst (d.shelf.cl.map ePair), .lst (d.shelf.asked.map eT), d.shelf.linesW])) := by
  have ok1 := ok.new (o := .ins 1 ["most", "wants", "clashes", "asked", "lines"] [d.shelf.most, d.shelf.wantsW, .lst (d.shelf.cl.map ePair), .lst (d.shelf.asked.map eT), d.shelf.linesW]) (nr_sh d.shelf)
  have ok0 : (h.new (.ins 1 [] [])).Ok := ok.new rfl
  have cll := o.cll
  have as3 := o.as3
  have as1 := o.as1
  have rl := o.rl
  let me : Me := [some (.ref h.nx), some d.most, some d.wantsW, some (.lst (d.cl.map ePair)), some (.lst (d.asked.map eT)), some d.linesW, none, none, none, none, none, none, none]
  refine fst_nx (me := me) (h2 := (h.new (.ins 1 ["most", "wants", "clashes", "asked", "lines"] [d.shelf.most, d.shelf.wantsW, .lst (d.shelf.cl.map ePair), .lst (d.shelf.asked.map eT), d.shelf.linesW]))) ok1 rfl rfl ok1.over (guard_go ?g1 (guard_go ?g2 (guard_go ?g3 (guard_go ?g4 (guard_go ?g5 (guard_go ?g6 (guard_go ?g7 (seq_go (fldn_go ?f1 rfl rfl rfl) (seq_go (fldn_go ?f2 rfl rfl rfl) (seq_go (fldn_go ?f3 rfl rfl rfl) (seq_go (fldn_go ?f4 rfl rfl rfl) (seq_go (fldn_go ?f5 rfl rfl rfl) rfl))))))))))))
  case g1 => exact not_go (k := true) (call_go (cons_go rfl nil_go) (are_packages_eq ok0 o))
  case g2 => exact not_go (k := true) (call_go (cons_go rfl (cons_go rfl nil_go)) (are_needs_eq ok0 o))
  case g3 =>
    refine or_go (k := false) (l := false) (not_go (k := true) (cb_go (cons_go rfl (cons_go (tup_go (cons_go rfl (cons_go rfl nil_go)) rfl) nil_go)) rfl)) fun _ => not_go (k := true) (cb_go (cons_go (lc_all (xs := d.cl) (enc := ePair) (f := fun _ : Item × Item => W.bl true) (seqm_go rfl rfl) (by omega) fun q hq => ⟨_, rfl, call_go (cons_go rfl (cons_go rfl nil_go)) (is_break_eq ok0 (o.clo q hq))⟩) nil_go) ?_)
    rw [all_go (fun _ : Item × Item => true), List.all_eq_true.mpr fun _ _ => rfl]
  case g4 =>
    refine or_go (k := false) (l := false) (not_go (k := true) (cb_go (cons_go rfl (cons_go (tup_go (cons_go rfl (cons_go rfl nil_go)) rfl) nil_go)) rfl)) fun _ => not_go (k := true) ?_
    refine (chain_go (y := .int ((d.asked.map eT).length : Nat)) rfl (cb_go (cons_go rfl nil_go) rfl) rfl rfl rfl).trans ?_
    rw [List.length_map]
    show R.ok (W.bl (decide ((1 : Int) <= (d.asked.length : Nat)) && decide (((d.asked.length : Nat) : Int) <= 3))) _ = _
    rw [decide_eq_true (show (1 : Int) <= (d.asked.length : Nat) by omega), decide_eq_true (show ((d.asked.length : Nat) : Int) <= 3 by omega)]
    rfl
  case g5 =>
    refine not_go (k := true) (cb_go (cons_go (lc_all (xs := d.asked) (enc := eT) (f := fun _ : List Str => W.bl true) (seqm_go rfl rfl) (by omega) fun q hq => ⟨_, rfl, call_go (cons_go rfl (cons_go rfl nil_go)) (is_request_eq ok0 o hq)⟩) nil_go) ?_)
    rw [all_go (fun _ : List Str => true), List.all_eq_true.mpr fun _ _ => rfl]
  case g6 =>
    refine or_go (k := false) (l := false) (not_go (k := true) (cb_go (cons_go rfl (cons_go rfl nil_go)) rfl)) fun _ => bin_go (x := .int (((d.rows.map (·.1)).map fun x => W.str x).length : Nat)) (cb_go (cons_go rfl nil_go) rfl) rfl ?_
    rw [List.length_map, List.length_map]
    show some (W.bl (decide ((6 : Int) < (d.rows.length : Nat)))) = _
    rw [decide_eq_false (by omega)]
  case g7 =>
    refine not_go (k := true) (cb_go (cons_go (lc_all (xs := d.rows) (enc := fun q : Str × Row => W.tup [.str q.1, eBound q.2]) (f := fun _ : Str × Row => W.bl true) ?_ (by omega) fun q hq => ⟨_, rfl, ?_⟩) nil_go) ?_)
    · exact (items_go rfl).trans (congrArg (fun z => R.ok z _) (zip_items (fun x : Str => W.str x) eBound d.rows))
    · exact and_go (k := true) (l := true) (call_go (cons_go rfl nil_go) (is_name_eq ok0 (o.rnm q.1 (List.mem_map_of_mem (f := (·.1)) hq)))) fun _ => call_go (cons_go rfl (cons_go rfl nil_go)) (is_bound_of_eq ok0 (o.ro q hq))
    · rw [all_go (fun _ : Str × Row => true), List.all_eq_true.mpr fun _ _ => rfl]
  case f1 =>
    refine (dc_go kenc_str (f := fun i : Int => W.int i) (xs := d.pk) (enc := fun q : Item => W.tup [.str q.1, .int q.2]) (p := fun _ => true) (kf := fun q : Item => q.1) (vf := fun q : Item => q.2) ((items_go rfl).trans (congrArg (fun z => R.ok z _) (zip_items (fun x : Str => W.str x) (fun i : Int => W.int i) d.pk))) (by have := o.len5; omega) fun x _ => ⟨_, rfl, rfl, fun _ => ⟨rfl, rfl⟩⟩).trans ?_
    rw [List.filter_eq_self.mpr (fun _ _ => rfl), fold_new (by simpa using o.nd), List.nil_append]
    show R.ok (dctW (fun x : Str => W.str x) (fun i : Int => W.int i) (d.pk.map fun q => q)) _ = _
    rw [List.map_id']
    rfl
  case f2 =>
    refine (dc_go (e := eItem) kenc_item (f := eT) (xs := d.wants) (enc := fun q : Item × List Str => W.tup [eItem q.1, eT q.2]) (p := fun q => !decide (q.2 = [])) (kf := fun q : Item × List Str => q.1) (vf := fun q : Item × List Str => q.2) ((items_go rfl).trans (congrArg (fun z => R.ok z _) (zip_items eItem eT d.wants))) (by have := o.wl; omega) fun x _ => ⟨_, rfl, bin_go (y := eT []) rfl rfl (cmp_ne encT (by decide) _ _ _), fun _ => ⟨rfl, rfl⟩⟩).trans ?_
    have nd : ((d.wants.filter fun q => !decide (q.2 = [])).map fun q : Item × List Str => q.1).Nodup := (List.filter_sublist.map (fun q : Item × List Str => q.1)).nodup o.wnd
    rw [fold_new (by simpa using nd), List.nil_append]
    show R.ok (dctW eItem eT ((d.wants.filter fun q => !decide (q.2 = [])).map fun q => q)) _ = _
    rw [List.map_id']
    rfl
  case f3 =>
    refine cb_go (cons_go (cb_go (cons_go (dc_go kenc_pair (f := fun b : Bool => W.bl b) (xs := d.cl) (enc := ePair) (p := fun _ => true) (kf := ord) (vf := fun _ => true) (seqm_go rfl rfl) (by omega) fun x _ => ⟨_, rfl, rfl, fun _ => ⟨ord_go x rfl, rfl⟩⟩) nil_go) rfl) nil_go) ?_
    rw [List.filter_eq_self.mpr (fun _ _ => rfl)]
    refine sorted_go ePair _ (fun _ _ => rfl) (fun _ _ _ _ => rfl) (fun _ _ => rfl) ?_
    have := fold_len (kf := ord) (vf := fun _ => true) (xs := d.cl) (acc := [])
    rw [List.length_map]
    simp only [List.length_nil] at this
    omega
  case f4 => exact cb_go (cons_go rfl nil_go) rfl
  case f5 =>
    refine (dc_go kenc_str (f := eBound) (xs := d.rows) (enc := fun q : Str × Row => W.tup [.str q.1, eBound q.2]) (p := fun _ => true) (kf := fun q : Str × Row => q.1) (vf := fun q : Str × Row => q.2) ((items_go rfl).trans (congrArg (fun z => R.ok z _) (zip_items (fun x : Str => W.str x) eBound d.rows))) (by omega) fun x _ => ⟨_, rfl, rfl, fun _ => ⟨rfl, rfl⟩⟩).trans ?_
    rw [List.filter_eq_self.mpr (fun _ _ => rfl), fold_new (by simpa using o.rnd), List.nil_append]
    show R.ok (dctW (fun x : Str => W.str x) eBound (d.rows.map fun q => q)) _ = _
    rw [List.map_id']
    rfl
theorem shelf_make (ok : h.Ok) {d : Sh} (o : Dr d) {as : AM} {me : Me} (e : as me h = .ok [d.most, d.wantsW, .lst (d.cl.map ePair), .lst (d.asked.map eT), d.linesW] h) : mRs (mMake 1 m_Shelf_init [] true as) me h = .ok d.shelf.w h :=
  make_go ok e (shelf_init_eq ok o) (nr_sh d.shelf)
end
def eRow (r : Row) : W := .tup [eSide r.1, eSide r.2.1, .int r.2.2]
def Sh.rowsW (d : Sh) : W := dctW (fun x : Str => W.str x) eRow d.rows
def Sh.dw (d : Sh) : W := .tup [d.most, d.wantsW, .lst (d.cl.map ePair), .lst (d.asked.map eT), d.rowsW]
section
variable {h : MH}
end
section
variable {h : MH}
end
section
variable {d : Sh}
theorem need_shelf (o : Dr d) (it : Item) : d.shelf.need it = d.need it := by
  unfold Sh.need Sh.shelf
  have nd := o.wnd
  clear o
  dsimp only
  generalize d.wants = l at nd ⊢
  induction l with
  | nil => rfl
  | cons q r ih =>
    obtain ⟨a, b⟩ := q
    rw [List.map_cons, List.nodup_cons] at nd
    rw [List.filter_cons]
    by_cases hb : b = []
    · subst hb
      show (look it (r.filter _)).getD [] = (if a = it then some [] else look it r).getD []
      rw [ih nd.2]
      by_cases ha : a = it
      · rw [if_pos ha]
        cases e : look it r with
        | none => rfl
        | some c => exact absurd (by rw [ha]; exact List.mem_map_of_mem (f := (·.1)) (look_mem e)) nd.1
      · rw [if_neg ha]
    · rw [if_pos (by simp [hb])]
      show (if a = it then some b else look it (r.filter _)).getD [] = (if a = it then some b else look it r).getD []
      by_cases ha : a = it
      · rw [if_pos ha, if_pos ha]
      · rw [if_neg ha, if_neg ha, ih nd.2]
end
theorem sub_filter {bs names : List Str} (s : bs.Sublist names) (nd : names.Nodup) : bs = names.filter fun x => decide (x ∈ bs) := by
  induction s with
  | slnil => rfl
  | cons a s ih =>
    rw [List.nodup_cons] at nd
    rw [List.filter_cons_of_neg (by simpa using fun hm => nd.1 (s.subset hm))]
    exact ih nd.2
  | cons_cons a s ih =>
    rw [List.nodup_cons] at nd
    rw [List.filter_cons_of_pos (by simp)]
    congr 1
    refine (ih nd.2).trans (List.filter_congr fun x hx => ?_)
    have : x ≠ a := fun z => nd.1 (z ▸ hx)
    rw [Bool.eq_iff_iff]
    simp [this]
section
variable {h : MH}
end
set_option exponentiation.threshold 2000
theorem intsW_map : ∀ ns : List Int, intsW ns = ns.map fun i => W.int i
  | [] => rfl
  | i :: r => by rw [intsW, intsW_map r]; rfl
def primes : List Int := [1000003, 1000033, 1000037, 1000039, 1000081, 1000099, 1000117, 1000121, 1000133, 1000151, 1000159, 1000171, 1000183, 1000187, 1000193, 1000199]
theorem primes_pos : ∀ i : Nat, i < 16 -> ∃ p, primes[i]? = some p /\ 0 < p := by
  intro i hi
  have hl : primes.length = 16 := rfl
  refine ⟨primes[i], List.getElem?_eq_getElem (by omega), ?_⟩
  have : ∀ p ∈ primes, (0 : Int) < p := by decide
  exact this _ (List.getElem_mem _)
theorem fit64_k (i : Int) (h1 : -1000000000 <= i) (h2 : i <= 1000000000) : fit64 i = true := by
  unfold fit64
  rw [decide_eq_true (show -(2 ^ 64) < i by omega), decide_eq_true (show i < 2 ^ 64 by omega)]
  rfl
theorem mul_go (i j : Int) (h : MH) (h1 : -1000000000 <= j) (h2 : j <= 1000000000) : wMul (.int i) (.int j) h = some (.int (i * j)) := by
  show wIf (fit64 i || fit64 j) _ = _
  rw [fit64_k j h1 h2, Bool.or_true]
  rfl
theorem mul_go' (i j : Int) (h : MH) (h1 : -1000000000 <= i) (h2 : i <= 1000000000) : wMul (.int i) (.int j) h = some (.int (i * j)) := by
  show wIf (fit64 i || fit64 j) _ = _
  rw [fit64_k i h1 h2, Bool.true_or]
  rfl
theorem mod_go (i j : Int) (h : MH) (hj : 0 < j) : wMod (.int i) (.int j) h = some (.int (i % j)) := by
  show wIf (decide (0 < j)) _ = _
  rw [decide_eq_true hj]
  rfl
theorem fdiv_go (i j : Int) (h : MH) (hj : 0 < j) (hb : j.natAbs < 2 ^ 1000) : wFdivW (.int i) (.int j) h = some (.int (i / j)) := by
  show wIf (decide (0 < j) && Nat.blt j.natAbs (2 ^ 1000)) _ = _
  rw [decide_eq_true hj, show Nat.blt j.natAbs (2 ^ 1000) = true from Nat.ble_eq_true_of_le hb]
  rfl
theorem fdiv_12 (i : Int) (h : MH) : wFdivW (.int i) (.int 12) h = some (.int (i / 12)) :=
  fdiv_go i 12 h (by decide) (Nat.lt_of_lt_of_le (show 12 < 2 ^ 4 by decide) (Nat.pow_le_pow_right (by decide) (by decide)))
section
variable {h : MH}
theorem cell_at_eq (ok : h.Ok) (ns : List Int) (k : Nat) : ∃ v : Int, m__law_cell_at [.scr ns, .int (k : Int)] h = .ok (.int v) h := by
  have e1 : (mBin wLt (mV 1) (mCallB wLen (mCons (mV 0) mNil))) [some (.scr ns), some (.int (k : Int))] h = .ok (.bl (decide ((k : Int) < ((intsW ns).length : Nat)))) h := bin_go (y := .int ((intsW ns).length : Nat)) rfl (cb_go (cons_go rfl nil_go) rfl) rfl
  rw [intsW_map, List.length_map] at e1
  by_cases hk : (k : Int) < ((ns.length : Nat) : Int)
  · rw [decide_eq_true hk] at e1
    have hkl : k < ns.length := by omega
    refine ⟨ns[k], fn_rt ok rfl ok.over rfl (seq_rt (if_t e1 (seq_rt (ret_go (bin_go (x := .scr ns) (y := .int (k : Int)) rfl rfl ?_)))))⟩
    show atI (intsW ns) (k : Int) = _
    rw [Mi.atI_nat, intsW_map, List.getElem?_map, List.getElem?_eq_getElem hkl]
    rfl
  · rw [decide_eq_false hk] at e1
    exact ⟨0, fn_rt ok rfl ok.over rfl (guard_go e1 (seq_rt (ret_go rfl)))⟩
theorem draw_eq (ok : h.Ok) (a k b : Int) (hb : 0 < b) : ∃ r : Int, m__law_draw [.int a, .int k, .int b] h = .ok (.int r) h /\ 0 <= r /\ r < b := by
  have k0 : 0 <= k % 16 := Int.emod_nonneg _ (by decide)
  have k1 : k % 16 < 16 := Int.emod_lt_of_pos _ (by decide)
  obtain ⟨p, hp, pp⟩ := primes_pos (k % 16).toNat (by omega)
  refine ⟨(a * 48271 + k * 69621) % p % b, fn_rt ok rfl ok.over rfl (seq_go (set_go (w := .tup (primes.map fun i => W.int i)) ?_) (seq_rt (ret_go (bin_go (x := .int ((a * 48271 + k * 69621) % p)) (y := .int b) (bin_go (x := .int (a * 48271 + k * 69621)) (y := .int p) (bin_go (x := .int (a * 48271)) (y := .int (k * 69621)) (bin_go rfl rfl (mul_go _ _ h (by decide) (by decide))) (bin_go rfl rfl (mul_go _ _ h (by decide) (by decide))) rfl) (bin_go (x := .tup (primes.map fun i => W.int i)) (y := .int (((k % 16).toNat : Nat) : Int)) rfl (bin_go rfl rfl ?_) (ix_tup h hp)) (mod_go _ _ h pp)) rfl (mod_go _ _ h hb))))), Int.emod_nonneg _ (by omega), Int.emod_lt_of_pos _ hb⟩
  · kernel_rfl
  · rw [mod_go _ _ h (by decide), Int.toNat_of_nonneg k0]
theorem number_eq (ok : h.Ok) (a : Int) (k : Nat) (hk : k <= 1000) (b : Int) (hb : 0 < b) : ∃ r : Int, m__law_number [.int a, .int (k : Int), .int b] h = .ok (.int r) h /\ 0 <= r /\ r < b := by
  let Inv : List Nat -> Me -> MH -> Prop := fun done me h' => h' = h /\ ∃ (P : Nat) (c : Option W), me = [some (.int a), some (.int (k : Int)), some (.int b), some (.int (P : Int)), c, none, none] /\ 0 < P /\ P <= 1024 ^ done.length
  have km : ((k : Int) % 24) = ((k % 24 : Nat) : Int) := rfl
  have k24 : k % 24 < 24 := Nat.mod_lt _ (by decide)
  obtain ⟨me', h', e, rfl, P, c, rfl, pp, lp⟩ := fi_nx (src := mRng1 (mCons (mBin wMod (mV 1) (mC (.int 24))) mNil)) (g := gSet 4) (b := sSeq (sSet 3 (mBin wMul (mV 3) (mC (.int 1009)))) sNil)
    (me := [some (.int a), some (.int (k : Int)), some (.int b), some (.int 1), none, none, none]) (h := h) (xs := List.range (k % 24)) (enc := fun k : Nat => W.int (k : Int)) Inv
    (rng1_go (n := k % 24) (cons_go (bin_go rfl rfl (mod_go _ _ h (by decide))) nil_go) (fit62_nat (by omega)))
    ⟨rfl, 1, none, rfl, by decide, by decide⟩ (fun done x rest me h2 ex i => by
      obtain ⟨rfl, P, c, rfl, pp, lp⟩ := i
      refine ⟨_, rfl, _, _, seq_go (set_go (bin_go rfl rfl (mul_go _ _ h2 (by decide) (by decide)))) rfl, rfl, P * 1009, some (.int (x : Int)), ?_, by omega, ?_⟩
      · rw [Int.natCast_mul]
        rfl
      · rw [List.length_append, List.length_singleton, Nat.pow_succ]
        omega)
  rw [List.length_range] at lp
  have lp2 : P < 2 ^ 1000 := by
    refine Nat.lt_of_le_of_lt lp (Nat.lt_of_le_of_lt (Nat.pow_le_pow_right (n := 1024) (by decide) (show k % 24 <= 23 by omega)) ?_)
    decide +kernel
  have e5 : (mBin wFdivW (mBin wSub (mV 0) (mBin wPow (mC (.int 10)) (mC (.int 18)))) (mV 3)) [some (.int a), some (.int (k : Int)), some (.int b), some (.int (P : Int)), c, none, none] h' = .ok (.int ((a - 10 ^ 18) / (P : Int))) h' :=
    bin_go (x := .int (a - 10 ^ 18)) (bin_go rfl (bin_go (z := .int (10 ^ 18)) rfl rfl (by kernel_rfl)) rfl) rfl (fdiv_go _ _ h' (by omega) (by rw [Int.natAbs_natCast]; exact lp2))
  by_cases hR : 0 < (a - 10 ^ 18) / (P : Int)
  · refine ⟨(a - 10 ^ 18) / (P : Int) % 1009 % b, fn_rt ok rfl ok.over rfl (seq_go (set_go rfl) (seq_go e (seq_go (set_go e5) (seq_rt (if_t (bin_go rfl rfl ?_) (seq_rt (ret_go (bin_go (bin_go rfl rfl (mod_go _ _ h' (by decide))) rfl (mod_go _ _ h' hb))))))))), Int.emod_nonneg _ (by omega), Int.emod_lt_of_pos _ hb⟩
    show some (W.bl (decide (0 < (a - 10 ^ 18) / (P : Int)))) = _
    rw [decide_eq_true hR]
  · obtain ⟨q, eq, q0, q1⟩ := draw_eq ok ((a % 1000003 + 977 * (k : Int)) * (a % 1000003 + 31 * (k : Int) + 5)) ((k : Int) % 9 + 1) 999983 (by decide)
    refine ⟨q % b, fn_rt ok rfl ok.over rfl (seq_go (set_go rfl) (seq_go e (seq_go (set_go e5) (seq_go (if_f (bin_go rfl rfl ?_) rfl) (seq_go (set_go (bin_go rfl rfl (mod_go _ _ h' (by decide)))) (seq_rt (ret_go (bin_go (x := .int q) (call_go (cons_go (bin_go (x := .int (a % 1000003 + 977 * (k : Int))) (y := .int (a % 1000003 + 31 * (k : Int) + 5)) (bin_go rfl (bin_go rfl rfl (mul_go' _ _ h' (by decide) (by decide))) rfl) (bin_go (bin_go rfl (bin_go rfl rfl (mul_go' _ _ h' (by decide) (by decide))) rfl) rfl rfl) ?mm) (cons_go (bin_go (x := .int ((k : Int) % 9)) (bin_go rfl rfl (mod_go _ _ h' (by decide))) rfl rfl) (cons_go rfl nil_go))) eq) rfl (mod_go _ _ h' hb))))))))), Int.emod_nonneg _ (by omega), Int.emod_lt_of_pos _ hb⟩
    case mm =>
      have s0 : 0 <= a % 1000003 := Int.emod_nonneg _ (by decide)
      have s1 : a % 1000003 < 1000003 := Int.emod_lt_of_pos _ (by decide)
      exact mul_go _ _ h' (by omega) (by omega)
    · show some (W.bl (decide (0 < (a - 10 ^ 18) / (P : Int)))) = _
      rw [decide_eq_false hR]
theorem putL_go {mo mi mv : EM} {me : Me} {h h1 h2 h3 : MH} {w : W} {n j : Nat} {i : Int} {ws : List W} (e1 : mv me h = .ok w h1) (e2 : mo me h1 = .ok (.ref n) h2) (e3 : mi me h2 = .ok (.int i) h3) (g : h3.get n = some (.lst ws)) (ij : ixN ws.length i = some j) : sPutL mo mi mv me h = .nx me (h3.set n (.lst (setW ws j w))) := by
  unfold sPutL
  rw [e1]; simp only [ofE_ok]
  rw [e2]; simp only [ofE_ok]
  rw [e3]; simp only [ofE_ok]
  unfold sPutLEnd
  simp only [g, ij]
variable {n : Nat} {ns : List Int} {by_ : Int} {S G : Nat -> MH}
theorem ffn_rt {np nl : Nat} {body : SM} {ws : List W} {v : W} {k k' : Nat} (F : Fam n ns by_ S G) (hl : ws.length = np) (nr : noRef v = true) (hb : body (padM nl ws) (S k) = .rt v (G k')) (ok : (S k').Ok) : rsF (mDef np nl true body) ws (S k) = .ok v (S k') :=
  fst_rt ok ((F.snx k').trans (F.snx k).symm) hl (F.on k').ov nr hb
theorem next_eq (F : Fam n ns by_ G G) (b0 : 0 <= by_) (k : Nat) (b : Int) (hb : 0 < b) : ∃ r : Int, m__law_next [.ref n, .int b] (G k) = .ok (.int r) (G (k + 1)) /\ 0 <= r /\ r < b := by
  have g0 := F.get k
  have g1 := F.get (k + 1)
  have ok1 := F.ok (k + 1)
  have kd : ((k + 1 : Nat) : Int) / 12 = (((k + 1) / 12 : Nat) : Int) := rfl
  have km : ((k + 1 : Nat) : Int) % 12 + 1 = (((k + 1) % 12 + 1 : Nat) : Int) := rfl
  obtain ⟨c, ec⟩ := cell_at_eq ok1 ns (by_.toNat + (k + 1) / 12)
  obtain ⟨r, er, r0, r1⟩ := number_eq ok1 (c + 31 * (((k + 1) / 12 : Nat) : Int)) ((k + 1) % 12 + 1) (by omega) b hb
  have i0 : ∀ {me : Me}, (mV 0) me (G (k + 1)) = .ok (.ref n) (G (k + 1)) -> (mBin wIx (mV 0) (mC (.int 0))) me (G (k + 1)) = .ok (.scr ns) (G (k + 1)) := fun e => bin_go e rfl (ix_ref g1 rfl)
  have i1 : ∀ {me : Me}, (mV 0) me (G (k + 1)) = .ok (.ref n) (G (k + 1)) -> (mBin wIx (mV 0) (mC (.int 1))) me (G (k + 1)) = .ok (.int by_) (G (k + 1)) := fun e => bin_go e rfl (ix_ref g1 rfl)
  have i2 : ∀ {me : Me}, (mV 0) me (G (k + 1)) = .ok (.ref n) (G (k + 1)) -> (mBin wIx (mV 0) (mC (.int 2))) me (G (k + 1)) = .ok (.int ((k + 1 : Nat) : Int)) (G (k + 1)) := fun e => bin_go e rfl (ix_ref g1 rfl)
  have s1 : (sPutL (mV 0) (mC (.int 2)) (mBin wAdd (mBin wIx (mV 0) (mC (.int 2))) (mC (.int 1)))) [some (.ref n), some (.int b), none, none] (G k) = .nx [some (.ref n), some (.int b), none, none] (G (k + 1)) := by
    refine (putL_go (w := .int ((k + 1 : Nat) : Int)) (i := 2) (bin_go (x := .int (k : Int)) (bin_go rfl rfl (ix_ref g0 rfl)) rfl rfl) rfl rfl g0 rfl).trans ?_
    exact congrArg (RS.nx _) (F.set k (k + 1))
  let m1 : Me := [some (.ref n), some (.int b), none, none]
  let m2 : Me := [some (.ref n), some (.int b), some (.int (((k + 1) / 12 : Nat) : Int)), none]
  let m3 : Me := [some (.ref n), some (.int b), some (.int (((k + 1) / 12 : Nat) : Int)), some (.int (c + 31 * (((k + 1) / 12 : Nat) : Int)))]
  have f12 : wFdivW (.int ((k + 1 : Nat) : Int)) (.int 12) (G (k + 1)) = some (.int (((k + 1) / 12 : Nat) : Int)) := by
    rw [<- kd]
    exact fdiv_12 _ _
  have s2 : (sSet 2 (mBin wFdivW (mBin wIx (mV 0) (mC (.int 2))) (mC (.int 12)))) m1 (G (k + 1)) = .nx m2 (G (k + 1)) := set_go (bin_go (i2 rfl) rfl f12)
  have a1 : wAdd (.int by_) (.int (((k + 1) / 12 : Nat) : Int)) (G (k + 1)) = some (.int ((by_.toNat + (k + 1) / 12 : Nat) : Int)) := by
    have e : by_ + (((k + 1) / 12 : Nat) : Int) = ((by_.toNat + (k + 1) / 12 : Nat) : Int) := by omega
    rw [<- e]
    rfl
  have e3 : (mCall m__law_cell_at [] (mCons (mBin wIx (mV 0) (mC (.int 0))) (mCons (mBin wAdd (mBin wIx (mV 0) (mC (.int 1))) (mV 2)) mNil))) m2 (G (k + 1)) = .ok (.int c) (G (k + 1)) := call_go (cons_go (i0 rfl) (cons_go (bin_go (i1 rfl) rfl a1) nil_go)) ec
  have s3 : (sSet 3 (mBin wAdd (mCall m__law_cell_at [] (mCons (mBin wIx (mV 0) (mC (.int 0))) (mCons (mBin wAdd (mBin wIx (mV 0) (mC (.int 1))) (mV 2)) mNil))) (mBin wMul (mC (.int 31)) (mV 2)))) m2 (G (k + 1)) = .nx m3 (G (k + 1)) := set_go (bin_go e3 (bin_go rfl rfl (mul_go' _ _ _ (by decide) (by decide))) rfl)
  have e4 : (mBin wAdd (mBin wMod (mBin wIx (mV 0) (mC (.int 2))) (mC (.int 12))) (mC (.int 1))) m3 (G (k + 1)) = .ok (.int (((k + 1) % 12 + 1 : Nat) : Int)) (G (k + 1)) := bin_go (x := .int (((k + 1 : Nat) : Int) % 12)) (bin_go (i2 rfl) rfl (mod_go _ _ _ (by decide))) rfl (congrArg (fun z => some (W.int z)) km)
  have s4 : (sRet (mCall m__law_number [] (mCons (mV 3) (mCons (mBin wAdd (mBin wMod (mBin wIx (mV 0) (mC (.int 2))) (mC (.int 12))) (mC (.int 1))) (mCons (mV 1) mNil))))) m3 (G (k + 1)) = .rt (.int r) (G (k + 1)) := ret_go (call_go (cons_go rfl (cons_go e4 (cons_go rfl nil_go))) er)
  exact ⟨r, ffn_rt F rfl rfl (seq_go s1 (seq_go s2 (seq_go s3 (seq_rt s4)))) ok1, r0, r1⟩
theorem pick_eq {α : Type} {f : α -> W} (nf : ∀ a, noRef (f a) = true) (F : Fam n ns by_ G G) (b0 : 0 <= by_) (k : Nat) {l : List α} (ne : l ≠ []) : ∃ x ∈ l, ∃ k', m__law_pick [.ref n, .lst (l.map f)] (G k) = .ok (f x) (G k') := by
  have : 0 < l.length := List.length_pos_iff.mpr ne
  obtain ⟨r, er, r0, r1⟩ := next_eq F b0 k ((l.length : Nat) : Int) (by omega)
  have rl : r.toNat < l.length := by omega
  refine ⟨l[r.toNat], List.getElem_mem rl, k + 1, ffn_rt F rfl (nf _) (seq_rt (ret_go (bin_go (x := .lst (l.map f)) (y := .int ((r.toNat : Nat) : Int)) rfl ?_ (ix_lst _ (List.getElem?_eq_getElem rl))))) (F.ok _)⟩
  rw [Int.toNat_of_nonneg r0]
  refine call_go (cons_go rfl (cons_go (w := .int ((l.length : Nat) : Int)) (cb_go (cons_go rfl nil_go) ?_) nil_go)) er
  show some (W.int (((l.map f).length : Nat) : Int)) = _
  rw [List.length_map]
theorem some_eq (F : Fam n ns by_ G G) (b0 : 0 <= by_) (k : Nat) (l : List Str) (ll : l.length <= 1000) (b : Int) (hb : 0 < b) : ∃ (q : List Str) (k' : Nat), m__law_some [.ref n, .lst (l.map fun x => W.str x), .int b] (G k) = .ok (eT q) (G k') /\ q.Sublist l := by
  obtain ⟨q, h', e, k', rfl, sb⟩ := lc_st (α := Str) (β := Str) (enc := fun x => W.str x) (f := fun x => W.str x) (src := mSeq (mV 1)) (g := gSet 3) (t := mBin (wCmpB false) (mCall m__law_next [] (mCons (mV 0) (mCons (mV 2) mNil))) (mC (.int 0))) (e := mV 3) (vs := [3]) (me := [some (.ref n), some (.lst (l.map fun x => W.str x)), some (.int b), none]) (h := G k) (xs := l) (fun done out h' => ∃ k', h' = G k' /\ out.Sublist done) (seqm_go rfl rfl) (by omega) ⟨k, rfl, .slnil⟩ (fun done x rest out h' ex ⟨k1, e1, sb⟩ => by
    subst e1
    obtain ⟨r, er, _, _⟩ := next_eq F b0 k1 b hb
    refine ⟨_, rfl, ?_⟩
    have et : (mBin (wCmpB false) (mCall m__law_next [] (mCons (mV 0) (mCons (mV 2) mNil))) (mC (.int 0))) (put (wipeW [some (.ref n), some (.lst (l.map fun x => W.str x)), some (.int b), none] [3]) 3 (.str x)) (G k1) = .ok (.bl (decide (r = 0))) (G (k1 + 1)) := bin_go (call_go (cons_go rfl (cons_go rfl nil_go)) er) rfl (cmp_eq enc_int (by decide) _ _ _)
    by_cases hr : r = 0
    · rw [decide_eq_true hr] at et
      exact .inr ⟨_, x, _, et, rfl, k1 + 1, rfl, sb.append (List.Sublist.refl [x])⟩
    · rw [decide_eq_false hr] at et
      exact .inl ⟨_, et, k1 + 1, rfl, sb.trans (List.sublist_append_left _ _)⟩)
  exact ⟨q, k', ffn_rt F rfl (encT.nr q) (seq_rt (ret_go (cb_go (cons_go e nil_go) rfl))) (F.ok _), sb⟩
end
end K31
end
section
namespace K31
open PySem PySem.Spec PyProof.Rows L2 Mi
abbrev tw1 : SM := sPar2 2 3 (mCons (mCall m__law_item [] (mCons (mV 0) (mCons (mV 1) mNil))) (mCons (mCall m__law_item [] (mCons (mV 0) (mCons (mV 1) mNil))) mNil))
abbrev tw2b1 : SM := sSet 4 (mCallB wList (mCons (mV 1) mNil))
abbrev tw2b2 : SM := sSet 5 (mBin wIx (mV 4) (mBin wMod (mBin wAdd (mMeth isL fIndex (mV 4) (mCons (mBin wIx (mV 3) (mC (.int 0))) mNil)) (mC (.int 1))) (mCallB wLen (mCons (mV 4) mNil))))
abbrev tw2b3 : SM := sSet 3 (mTup (mCons (mV 5) (mCons (mBin wAdd (mC (.int 1)) (mCall m__law_next [] (mCons (mV 0) (mCons (mBin wIx (mV 1) (mV 5)) mNil)))) mNil)))
abbrev tw2b : SM := sSeq tw2b1 (sSeq tw2b2 (sSeq tw2b3 sNil))
abbrev tw2t : EM := mBin (wCmpB false) (mBin wIx (mV 3) (mC (.int 0))) (mBin wIx (mV 2) (mC (.int 0)))
abbrev tw2 : SM := sWhile tw2t tw2b 400
abbrev tw3 : SM := sRet (mTup (mCons (mV 2) (mCons (mV 3) mNil)))
abbrev dr1 : SM := sSet 2 mDict0B
abbrev dr2b1 : SM := sPut (mV 2) (mV 3) (mBin wAdd (mC (.int 1)) (mCall m__law_next [] (mCons (mV 0) (mCons (mC (.int 3)) mNil))))
abbrev dr2b : SM := sSeq dr2b1 sNil
abbrev dr2s : AM := mSeq (mSl (mLst (mCons (mC (.str "lib")) (mCons (mC (.str "app")) (mCons (mC (.str "core")) (mCons (mC (.str "b")) mNil))))) oNone (oSome (mBin wAdd (mC (.int 2)) (mCall m__law_next [] (mCons (mV 0) (mCons (mC (.int 3)) mNil))))))
abbrev dr2g : GM := gSet 3
abbrev dr2 : SM := sForI dr2s dr2g dr2b
abbrev dr3 : SM := sFrz 2
abbrev dr4 : SM := sPar2 8 9 (mCons mDict0B (mCons (mCallB wList (mCons (mV 2) mNil)) mNil))
abbrev dr5b1b1 : SM := sSet 11 (mCallB wTuple (mCons (mLc (mSeq (mCall m__law_some [] (mCons (mV 0) (mCons (mV 9) (mCons (mC (.int 3)) mNil))))) (gSet 14) (mBin (wCmpB true) (mV 14) (mV 3)) (mV 14) [14]) mNil))
abbrev dr5b1b2 : SM := sFrz 11
abbrev dr5b1b3a1 : SM := sPut (mV 8) (mTup (mCons (mV 3) (mCons (mV 10) mNil))) (mV 11)
abbrev dr5b1b3a : SM := sSeq dr5b1b3a1 sNil
abbrev dr5b1b3t : EM := mOr (mBin (wCmpB true) (mV 11) (mTup mNil)) (mBin (wCmpB false) (mCall m__law_next [] (mCons (mV 0) (mCons (mC (.int 6)) mNil))) (mC (.int 0)))
abbrev dr5b1b3 : SM := sIf dr5b1b3t dr5b1b3a sNil
abbrev dr5b1b : SM := sSeq dr5b1b1 (sSeq dr5b1b2 (sSeq dr5b1b3 sNil))
abbrev dr5b1s : AM := mRng2 (mCons (mC (.int 1)) (mCons (mBin wAdd (mBin wIx (mV 2) (mV 3)) (mC (.int 1))) mNil))
abbrev dr5b1g : GM := gSet 10
abbrev dr5b1 : SM := sForI dr5b1s dr5b1g dr5b1b
abbrev dr5b : SM := sSeq dr5b1 sNil
abbrev dr5s : AM := mSeq (mV 9)
abbrev dr5g : GM := gSet 3
abbrev dr5 : SM := sForI dr5s dr5g dr5b
abbrev dr6 : SM := sFrz 8
abbrev dr7 : SM := sSet 4 (mLc (mRng1 (mCons (mCall m__law_next [] (mCons (mV 0) (mCons (mC (.int 4)) mNil))) mNil)) (gSet 6) yes (mCall m__law_two [] (mCons (mV 0) (mCons (mV 2) mNil))) [6])
abbrev dr8 : SM := sSet 5 (mBox mNil)
abbrev dr9b1 : SM := sSet 11 (mCall m__law_some [] (mCons (mV 0) (mCons (mV 9) (mCons (mC (.int 2)) mNil))))
abbrev dr9b2 : SM := sFrz 11
abbrev dr9b3 : SM := sExpr (mMeth isL fAppend (mV 5) (mCons (mIf (mBin (wCmpB true) (mV 11) (mTup mNil)) (mV 11) (mTup (mCons (mCall m__law_pick [] (mCons (mV 0) (mCons (mV 9) mNil))) mNil))) mNil))
abbrev dr9b : SM := sSeq dr9b1 (sSeq dr9b2 (sSeq dr9b3 sNil))
abbrev dr9s : AM := mRng1 (mCons (mBin wAdd (mC (.int 1)) (mCall m__law_next [] (mCons (mV 0) (mCons (mC (.int 2)) mNil)))) mNil)
abbrev dr9g : GM := gSet 6
abbrev dr9 : SM := sForI dr9s dr9g dr9b
abbrev dr10 : SM := sFrz 5
abbrev dr11 : SM := sSet 7 mDict0B
abbrev dr12b1 : SM := sAsg (gTupM 2 (gAnd (gSet 14) (gAnd (gSet 15) gNo))) (mCall m__law_two [] (mCons (mV 0) (mCons (mV 2) mNil)))
abbrev dr12b2a1 : SM := sAsg (gTupM 2 (gAnd (gSet 14) (gAnd (gSet 15) gNo))) (mCall m__law_pick [] (mCons (mV 0) (mCons (mV 4) mNil)))
abbrev dr12b2a : SM := sSeq dr12b2a1 sNil
abbrev dr12b2t : EM := mAnd (mBin (wCmpB true) (mV 4) (mLst mNil)) (mBin wGt (mCall m__law_next [] (mCons (mV 0) (mCons (mC (.int 4)) mNil))) (mC (.int 0)))
abbrev dr12b2 : SM := sIf dr12b2t dr12b2a sNil
abbrev dr12b3a1 : SM := sPar2 14 15 (mCons (mV 15) (mCons (mV 14) mNil))
abbrev dr12b3a : SM := sSeq dr12b3a1 sNil
abbrev dr12b3t : EM := mBin (wCmpB false) (mCall m__law_next [] (mCons (mV 0) (mCons (mC (.int 2)) mNil))) (mC (.int 0))
abbrev dr12b3 : SM := sIf dr12b3t dr12b3a sNil
abbrev dr12b4 : SM := sSet 12 (mBox mNil)
abbrev dr12b5b1 : SM := sSet 11 (mBox mNil)
abbrev dr12b5b2b1a1 : SM := sExpr (mMeth isL fAppend (mV 11) (mCons (mV 16) mNil))
abbrev dr12b5b2b1a : SM := sSeq dr12b5b2b1a1 sNil
abbrev dr12b5b2b1t : EM := mOr (mBin (wCmpB false) (mV 16) (mBin wIx (mV 13) (mC (.int 1)))) (mBin (wCmpB false) (mCall m__law_next [] (mCons (mV 0) (mCons (mC (.int 5)) mNil))) (mC (.int 0)))
abbrev dr12b5b2b1 : SM := sIf dr12b5b2b1t dr12b5b2b1a sNil
abbrev dr12b5b2b : SM := sSeq dr12b5b2b1 sNil
abbrev dr12b5b2s : AM := mRng2 (mCons (mC (.int 1)) (mCons (mBin wAdd (mBin wIx (mV 2) (mBin wIx (mV 13) (mC (.int 0)))) (mC (.int 1))) mNil))
abbrev dr12b5b2g : GM := gSet 16
abbrev dr12b5b2 : SM := sForI dr12b5b2s dr12b5b2g dr12b5b2b
abbrev dr12b5b3 : SM := sFrz 11
abbrev dr12b5b4 : SM := sExpr (mMeth isL fAppend (mV 12) (mCons (mTup (mCons (mBin wIx (mV 13) (mC (.int 0))) (mCons (mCallB wTuple (mCons (mV 11) mNil)) mNil))) mNil))
abbrev dr12b5b : SM := sSeq dr12b5b1 (sSeq dr12b5b2 (sSeq dr12b5b3 (sSeq dr12b5b4 sNil)))
abbrev dr12b5s : AM := mSeq (mTup (mCons (mV 14) (mCons (mV 15) mNil)))
abbrev dr12b5g : GM := gSet 13
abbrev dr12b5 : SM := sForI dr12b5s dr12b5g dr12b5b
abbrev dr12b6 : SM := sFrz 12
abbrev dr12b7 : SM := sPut (mV 7) (mV 3) (mTup (mCons (mBin wIx (mV 12) (mC (.int 0))) (mCons (mBin wIx (mV 12) (mC (.int 1))) (mCons (mBin wAdd (mC (.int 1)) (mCall m__law_next [] (mCons (mV 0) (mCons (mC (.int 3)) mNil)))) mNil))))
abbrev dr12b : SM := sSeq dr12b1 (sSeq dr12b2 (sSeq dr12b3 (sSeq dr12b4 (sSeq dr12b5 (sSeq dr12b6 (sSeq dr12b7 sNil))))))
abbrev dr12s : AM := mSeq (mSl (mLst (mCons (mC (.str "old")) (mCons (mC (.str "a")) (mCons (mC (.str "new")) (mCons (mC (.str "z")) mNil))))) oNone (oSome (mCall m__law_next [] (mCons (mV 0) (mCons (mBin wAdd (mV 1) (mC (.int 1))) mNil)))))
abbrev dr12g : GM := gSet 3
abbrev dr12 : SM := sForI dr12s dr12g dr12b
abbrev dr13 : SM := sFrz 7
abbrev dr14 : SM := sRet (mTup (mCons (mV 2) (mCons (mV 8) (mCons (mV 4) (mCons (mV 5) (mCons (mV 7) mNil))))))
abbrev dr : SM := sSeq dr1 (sSeq dr2 (sSeq dr3 (sSeq dr4 (sSeq dr5 (sSeq dr6 (sSeq dr7 (sSeq dr8 (sSeq dr9 (sSeq dr10 (sSeq dr11 (sSeq dr12 (sSeq dr13 (sSeq dr14 sNil)))))))))))))
abbrev ls1 : SM := sSet 1 mDict0B
abbrev ls2b1 : SM := sAsg (gTupM 3 (gAnd (gSet 3) (gAnd (gSet 4) (gAnd (gSet 5) gNo)))) (mBin wIx (mBin wIx (mV 0) (mC (.int 4))) (mV 2))
abbrev ls2b2 : SM := sPut (mV 1) (mV 2) (mRs (mMakeK 0 4 1 m_Bound_init true (mCons (mBin wIx (mV 3) (mC (.int 0))) (mCons (mBin wIx (mV 3) (mC (.int 1))) (mCons (mBin wIx (mV 4) (mC (.int 0))) (mCons (mBin wIx (mV 4) (mC (.int 1))) mNil)))) (mCons (mV 5) mNil)))
abbrev ls2b : SM := sSeq ls2b1 (sSeq ls2b2 sNil)
abbrev ls2s : AM := mSeq (mBin wIx (mV 0) (mC (.int 4)))
abbrev ls2g : GM := gSet 2
abbrev ls2 : SM := sForI ls2s ls2g ls2b
abbrev ls3 : SM := sFrz 1
abbrev ls4 : SM := sRet (mRs (mMake 1 m_Shelf_init [] true (mCons (mBin wIx (mV 0) (mC (.int 0))) (mCons (mBin wIx (mV 0) (mC (.int 1))) (mCons (mBin wIx (mV 0) (mC (.int 2))) (mCons (mBin wIx (mV 0) (mC (.int 3))) (mCons (mV 1) mNil)))))))
abbrev ls : SM := sSeq ls1 (sSeq ls2 (sSeq ls3 (sSeq ls4 sNil)))
abbrev on1 : SM := sSet 1 (mCall m__law_drawn [] (mCons (mV 0) (mCons (mC (.int 4)) mNil)))
abbrev on2 : SM := sAsg (gTupM 5 (gAnd (gSet 4) (gAnd (gSet 5) (gAnd (gSet 6) (gAnd (gSet 7) (gAnd (gSet 8) gNo)))))) (mV 1)
abbrev on3 : SM := sSet 2 (mCall m__law_shelf [] (mCons (mV 1) mNil))
abbrev on4a1 : SM := sRet (mC (.bl false))
abbrev on4a : SM := sSeq on4a1 sNil
abbrev on4t : EM := mBin (wCmpB true) (mProp 1 m_Shelf_packages (mV 2)) (mV 4)
abbrev on4 : SM := sIf on4t on4a sNil
abbrev on5a1 : SM := sRet (mC (.bl false))
abbrev on5a : SM := sSeq on5a1 sNil
abbrev on5t : EM := mBin (wCmpB true) (mCallB wList (mCons (mProp 1 m_Shelf_packages (mV 2)) mNil)) (mCallB wList (mCons (mV 4) mNil))
abbrev on5 : SM := sIf on5t on5a sNil
abbrev on6a1 : SM := sRet (mC (.bl false))
abbrev on6a : SM := sSeq on6a1 sNil
abbrev on6t : EM := mBin (wCmpB true) (mProp 1 m_Shelf_requests (mV 2)) (mV 7)
abbrev on6 : SM := sIf on6t on6a sNil
abbrev on7a1 : SM := sRet (mC (.bl false))
abbrev on7a : SM := sSeq on7a1 sNil
abbrev on7t : EM := mBin (wCmpB true) (mProp 1 m_Shelf_names (mV 2)) (mCallB wList (mCons (mV 8) mNil))
abbrev on7 : SM := sIf on7t on7a sNil
abbrev on8b1b1a1 : SM := sRet (mC (.bl false))
abbrev on8b1b1a : SM := sSeq on8b1b1a1 sNil
abbrev on8b1b1t : EM := mBin (wCmpB true) (mMt 1 "needs" m_Shelf_needs [] (mV 2) (mCons (mTup (mCons (mV 3) (mCons (mV 9) mNil))) mNil)) (mMeth isD fGet (mV 5) (mCons (mTup (mCons (mV 3) (mCons (mV 9) mNil))) (mCons (mTup mNil) mNil)))
abbrev on8b1b1 : SM := sIf on8b1b1t on8b1b1a sNil
abbrev on8b1b : SM := sSeq on8b1b1 sNil
abbrev on8b1s : AM := mRng2 (mCons (mC (.int 1)) (mCons (mBin wAdd (mBin wIx (mV 4) (mV 3)) (mC (.int 1))) mNil))
abbrev on8b1g : GM := gSet 9
abbrev on8b1 : SM := sForI on8b1s on8b1g on8b1b
abbrev on8b : SM := sSeq on8b1 sNil
abbrev on8s : AM := mSeq (mV 4)
abbrev on8g : GM := gSet 3
abbrev on8 : SM := sForI on8s on8g on8b
abbrev on9b1 : SM := sAsg (gTupM 3 (gAnd (gSet 11) (gAnd (gSet 12) (gAnd (gSet 13) gNo)))) (mBin wIx (mV 8) (mV 3))
abbrev on9b2 : SM := sSet 10 (mBin (wIxO mq__getitem___Shelf) (mV 2) (mV 3))
abbrev on9b3a1 : SM := sRet (mC (.bl false))
abbrev on9b3a : SM := sSeq on9b3a1 sNil
abbrev on9b3t : EM := mBin (wCmpB true) (mTup (mCons (mProp 0 m_Bound_first (mV 10)) (mCons (mProp 0 m_Bound_versions (mV 10)) mNil))) (mV 11)
abbrev on9b3 : SM := sIf on9b3t on9b3a sNil
abbrev on9b4a1 : SM := sRet (mC (.bl false))
abbrev on9b4a : SM := sSeq on9b4a1 sNil
abbrev on9b4t : EM := mBin (wCmpB true) (mTup (mCons (mProp 0 m_Bound_second (mV 10)) (mCons (mProp 0 m_Bound_others (mV 10)) mNil))) (mV 12)
abbrev on9b4 : SM := sIf on9b4t on9b4a sNil
abbrev on9b5a1 : SM := sRet (mC (.bl false))
abbrev on9b5a : SM := sSeq on9b5a1 sNil
abbrev on9b5t : EM := mBin (wCmpB true) (mProp 0 m_Bound_cost (mV 10)) (mV 13)
abbrev on9b5 : SM := sIf on9b5t on9b5a sNil
abbrev on9b6a1 : SM := sRet (mC (.bl false))
abbrev on9b6a : SM := sSeq on9b6a1 sNil
abbrev on9b6t : EM := mNot (mBin (wEqO mq__eq___Bound) (mNegO mq__neg___Bound (mV 10)) (mRs (mMakeK 0 4 1 m_Bound_init true (mCons (mBin wIx (mV 12) (mC (.int 0))) (mCons (mBin wIx (mV 12) (mC (.int 1))) (mCons (mBin wIx (mV 11) (mC (.int 0))) (mCons (mBin wIx (mV 11) (mC (.int 1))) mNil)))) (mCons (mV 13) mNil))))
abbrev on9b6 : SM := sIf on9b6t on9b6a sNil
abbrev on9b7a1 : SM := sRet (mC (.bl false))
abbrev on9b7a : SM := sSeq on9b7a1 sNil
abbrev on9b7t : EM := mNot (mBin (wEqO mq__eq___Bound) (mNegO mq__neg___Bound (mNegO mq__neg___Bound (mV 10))) (mV 10))
abbrev on9b7 : SM := sIf on9b7t on9b7a sNil
abbrev on9b8a1 : SM := sRet (mC (.bl false))
abbrev on9b8a : SM := sSeq on9b8a1 sNil
abbrev on9b8t : EM := mBin (wInO true mq__contains___Shelf) (mV 3) (mV 2)
abbrev on9b8 : SM := sIf on9b8t on9b8a sNil
abbrev on9b : SM := sSeq on9b1 (sSeq on9b2 (sSeq on9b3 (sSeq on9b4 (sSeq on9b5 (sSeq on9b6 (sSeq on9b7 (sSeq on9b8 sNil)))))))
abbrev on9s : AM := mSeq (mV 8)
abbrev on9g : GM := gSet 3
abbrev on9 : SM := sForI on9s on9g on9b
abbrev on10 : SM := sRet (mCall m__law_equal_right [] (mCons (mV 1) (mCons (mV 2) mNil)))
abbrev on : SM := sSeq on1 (sSeq on2 (sSeq on3 (sSeq on4 (sSeq on5 (sSeq on6 (sSeq on7 (sSeq on8 (sSeq on9 (sSeq on10 sNil)))))))))
abbrev la1b1a1 : SM := sRet (mC (.bl false))
abbrev la1b1a : SM := sSeq la1b1a1 sNil
abbrev la1b1t : EM := mNot (mCall m__law_one_right [] (mCons (mBox (mCons (mV 0) (mCons (mV 1) (mCons (mC (.int 0)) mNil)))) mNil))
abbrev la1b1 : SM := sIf la1b1t la1b1a sNil
abbrev la1b : SM := sSeq la1b1 sNil
abbrev la1s : AM := mRng3 (mCons (mC (.int 0)) (mCons (mCallB wMax2 (mCons (mC (.int 1)) (mCons (mCallB wMin2 (mCons (mC (.int 24)) (mCons (mCallB wLen (mCons (mV 0) mNil)) mNil))) mNil))) (mCons (mC (.int 3)) mNil)))
abbrev la1g : GM := gSet 1
abbrev er1 : SM := sAsg (gTupM 5 (gAnd (gSet 6) (gAnd (gSet 7) (gAnd (gSet 8) (gAnd (gSet 9) (gAnd (gSet 10) gNo)))))) (mV 0)
abbrev er2a1 : SM := sRet (mC (.bl false))
abbrev er2a : SM := sSeq er2a1 sNil
abbrev er2t : EM := mOr (mBin (wCmpB true) (mCallB (wLenO mq__len___Shelf) (mCons (mV 1) mNil)) (mCallB wLen (mCons (mV 10) mNil))) (mOr (mBin (wInO false mq__contains___Shelf) (mC (.str "zzz")) (mV 1)) (mNot (mBin (wEqO mq__eq___Shelf) (mV 1) (mCall m__law_shelf [] (mCons (mV 0) mNil)))))
abbrev er2 : SM := sIf er2t er2a sNil
abbrev er3 : SM := sSet 2 (mBin wAdd (mRevL (mLc (mSeq (mV 8)) (gTupM 2 (gAnd (gSet 11) (gAnd (gSet 4) gNo))) yes (mTup (mCons (mV 4) (mCons (mV 11) mNil))) [4, 11])) (mSl (mV 8) oNone (oSome (mC (.int 1)))))
abbrev er4 : SM := sSet 3 (mCallB wDictA (mCons (mRevL (mLstIt (mV 7))) mNil))
abbrev er5a1 : SM := sRet (mC (.bl false))
abbrev er5a : SM := sSeq er5a1 sNil
abbrev er5t : EM := mNot (mBin (wEqO mq__eq___Shelf) (mV 1) (mCall m__law_shelf [] (mCons (mTup (mCons (mV 6) (mCons (mV 3) (mCons (mV 2) (mCons (mV 9) (mCons (mV 10) mNil)))))) mNil)))
abbrev er5 : SM := sIf er5t er5a sNil
abbrev er6 : SM := sSet 4 (mCall m__law_shelf [] (mCons (mTup (mCons (mV 6) (mCons (mV 7) (mCons (mV 8) (mCons (mRevL (mV 9)) (mCons (mV 10) mNil)))))) mNil))
abbrev er7a1 : SM := sRet (mC (.bl false))
abbrev er7a : SM := sSeq er7a1 sNil
abbrev er7t : EM := mBin (wCmpB true) (mBin (wEqO mq__eq___Shelf) (mV 1) (mV 4)) (mBin (wCmpB false) (mV 9) (mRevL (mV 9)))
abbrev er7 : SM := sIf er7t er7a sNil
abbrev er8 : SM := sSet 5 (mCallB wDictA (mCons (mRevL (mLstIt (mV 10))) mNil))
abbrev er9 : SM := sRet (mBin (wCmpB false) (mBin (wEqO mq__eq___Shelf) (mV 1) (mCall m__law_shelf [] (mCons (mTup (mCons (mV 6) (mCons (mV 7) (mCons (mV 8) (mCons (mV 9) (mCons (mV 5) mNil)))))) mNil))) (mBin wLt (mCallB wLen (mCons (mV 10) mNil)) (mC (.int 2))))
abbrev er : SM := sSeq er1 (sSeq er2 (sSeq er3 (sSeq er4 (sSeq er5 (sSeq er6 (sSeq er7 (sSeq er8 (sSeq er9 sNil))))))))
structure PkOk (pk : List Item) : Prop where
  len2 : 2 <= pk.length
  len5 : pk.length <= 5
  nd : (pk.map (·.1)).Nodup
  cnt : ∀ q ∈ pk, 1 <= q.2 /\ q.2 <= 3
abbrev mostW (pk : List Item) : W := dctW (fun x : Str => W.str x) (fun i : Int => W.int i) pk
section
variable {h : MH} {n : Nat} {ns : List Int} {by_ : Int} {S G : Nat -> MH}
theorem item_eq {pk : List Item} (P : PkOk pk) (F : Fam n ns by_ G G) (b0 : 0 <= by_) (k : Nat) : ∃ (it : Item) (k' : Nat), m__law_item [.ref n, mostW pk] (G k) = .ok (eItem it) (G k') /\ ItemOk pk it := by
  have l2 := P.len2
  have ne : pk.map (·.1) ≠ [] := by
    intro z
    have := congrArg List.length z
    rw [List.length_map, List.length_nil] at this
    omega
  obtain ⟨x, hx, k1, e1⟩ := pick_eq (f := fun x : Str => W.str x) (fun _ => rfl) F b0 k ne
  obtain ⟨c, hc⟩ := look_some hx
  have c13 := P.cnt _ (look_mem hc)
  obtain ⟨r, e2, r0, r1⟩ := next_eq F b0 k1 c (by have := c13.1; dsimp only at this; omega)
  refine ⟨(x, 1 + r), k1 + 1, ffn_rt F rfl rfl (seq_go (set_go (call_go (cons_go rfl (cons_go (cb_go (cons_go rfl nil_go) rfl) nil_go)) e1)) (seq_rt (ret_go (tup_go (cons_go rfl (cons_go (bin_go rfl (call_go (cons_go rfl (cons_go (bin_go rfl rfl (ix_dct kenc_str _ hc)) nil_go)) e2) rfl) nil_go)) rfl)))) (F.ok _), c, hc, c13.2, ?_, ?_⟩
  · show 1 <= 1 + r
    omega
  · show 1 + r <= c
    omega
theorem two_eq {pk : List Item} (P : PkOk pk) (F : Fam n ns by_ G G) (b0 : 0 <= by_) (k : Nat) : ∃ (q : Item × Item) (k' : Nat), m__law_two [.ref n, mostW pk] (G k) = .ok (ePair q) (G k') /\ ItemOk pk q.1 /\ ItemOk pk q.2 /\ q.1.1 ≠ q.2.1 := by
  have l2 := P.len2
  have l5 := P.len5
  obtain ⟨a, k1, e1, o1⟩ := item_eq P F b0 k
  obtain ⟨b, k2, e2, o2⟩ := item_eq P F b0 k1
  let me (b : Item) (c d : Option W) : Me := [some (.ref n), some (mostW pk), some (eItem a), some (eItem b), c, d]
  have s1 : tw1 [some (.ref n), some (mostW pk), none, none, none, none] (G k) = .nx (me b none none) (G k2) := par2_go (cons_go (call_go (cons_go rfl (cons_go rfl nil_go)) e1) (cons_go (call_go (cons_go rfl (cons_go rfl nil_go)) e2) nil_go))
  have t1 : ∀ (b : Item) (c d : Option W) (j : Nat), tw2t (me b c d) (G j) = .ok (.bl (decide (b.1 = a.1))) (G j) := fun b c d j => bin_go (x := .str b.1) (y := .str a.1) (bin_go rfl rfl rfl) (bin_go rfl rfl rfl) (cmp_eq enc_str (by decide) _ _ _)
  have fin : ∀ (b : Item) (c d : Option W) (j : Nat), tw3 (me b c d) (G j) = .rt (ePair (a, b)) (G j) := fun b c d j => ret_go (tup_go (cons_go rfl (cons_go rfl nil_go)) rfl)
  by_cases hd : b.1 = a.1
  · have hm : b.1 ∈ pk.map (·.1) := by
      obtain ⟨c, hc, _⟩ := o2
      exact List.mem_map_of_mem (f := (·.1)) (look_mem hc)
    obtain ⟨i, hi, il, gi⟩ := posOf_some hm
    rw [List.length_map] at il
    let j := (i + 1) % pk.length
    have jl : j < pk.length := Nat.mod_lt _ (by omega)
    have jn : (pk.map (·.1))[j]? = some pk[j].1 := by rw [List.getElem?_map, List.getElem?_eq_getElem jl]; rfl
    have ji : j ≠ i := by
      show (i + 1) % pk.length ≠ i
      by_cases q : i + 1 = pk.length
      · rw [q, Nat.mod_self]; omega
      · rw [Nat.mod_eq_of_lt (by omega)]; omega
    have yn : pk[j].1 ≠ a.1 := by
      rw [<- hd]
      intro z
      rw [z] at jn
      have e1 := posOf_at P.nd jn
      rw [hi] at e1
      exact ji (Option.some.inj e1).symm
    have hc : look pk[j].1 pk = some pk[j].2 := look_of_mem P.nd (List.getElem_mem jl)
    have c13 := P.cnt _ (List.getElem_mem jl)
    obtain ⟨r, e3, r0, r1⟩ := next_eq F b0 k2 pk[j].2 (by omega)
    have jm : ((i : Int) + 1) % ((pk.length : Nat) : Int) = ((j : Nat) : Int) := rfl
    have b1 : tw2b (me b none none) (G k2) = .nx (me (pk[j].1, 1 + r) (some (.lst ((pk.map (·.1)).map fun x => W.str x))) (some (.str pk[j].1))) (G (k2 + 1)) := by
      refine seq_go (set_go (cb_go (cons_go rfl nil_go) rfl)) (seq_go (set_go (bin_go (x := .lst ((pk.map (·.1)).map fun x => W.str x)) (y := .int ((j : Nat) : Int)) rfl (bin_go (x := .int ((i : Int) + 1)) (y := .int ((pk.length : Nat) : Int)) (bin_go (x := .int (i : Int)) (meth_go (w := .lst ((pk.map (·.1)).map fun x => W.str x)) rfl rfl (cons_go (w := .str b.1) (bin_go rfl rfl rfl) nil_go) (index_go enc_str (by decide) _ (by rw [List.length_map]; omega) hi)) rfl rfl) (cb_go (cons_go rfl nil_go) ?_) ((mod_go _ _ _ (by omega)).trans (by rw [jm]))) (ix_lst _ jn))) (seq_go (set_go (tup_go (cons_go rfl (cons_go (bin_go rfl (call_go (cons_go rfl (cons_go (bin_go rfl rfl (ix_dct kenc_str _ hc)) nil_go)) e3) rfl) nil_go)) rfl)) rfl))
      show some (W.int ((((pk.map (·.1)).map fun x => W.str x).length : Nat) : Int)) = _
      rw [List.length_map, List.length_map]
    have w1 : tw2 (me b none none) (G k2) = .nx (me (pk[j].1, 1 + r) (some (.lst ((pk.map (·.1)).map fun x => W.str x))) (some (.str pk[j].1))) (G (k2 + 1)) :=
      (while_turn (n := 399) ((t1 b none none k2).trans (by rw [decide_eq_true hd])) b1).trans (while_stop (n := 398) ((t1 _ _ _ _).trans (by rw [decide_eq_false yn])))
    refine ⟨(a, (pk[j].1, 1 + r)), k2 + 1, ffn_rt F rfl (encPair.nr _) (seq_go s1 (seq_go w1 (seq_rt (fin _ _ _ _)))) (F.ok _), o1, ⟨pk[j].2, hc, c13.2, ?_, ?_⟩, Ne.symm yn⟩
    · show 1 <= 1 + r
      omega
    · show 1 + r <= pk[j].2
      omega
  · have w1 : tw2 (me b none none) (G k2) = .nx (me b none none) (G k2) := while_stop (n := 399) ((t1 b none none k2).trans (by rw [decide_eq_false hd]))
    exact ⟨(a, b), k2, ffn_rt F rfl (encPair.nr _) (seq_go s1 (seq_go w1 (seq_rt (fin _ _ _ _)))) (F.ok _), o1, o2, fun z => hd z.symm⟩
end
abbrev me17 (n : Nat) (m : Int) (a2 a3 a4 a5 a6 a7 a8 a9 a10 a11 a12 a13 a14 a15 a16 : Option W) : Me := [some (.ref n), some (.int m), a2, a3, a4, a5, a6, a7, a8, a9, a10, a11, a12, a13, a14, a15, a16]
abbrev dctO {κ β : Type} (e : κ -> W) (f : β -> W) (l : List (κ × β)) : O := .dct ((l.map Prod.fst).map e) ((l.map Prod.snd).map f)
theorem nrO_dct {κ β : Type} {e : κ -> W} {f : β -> W} (he : ∀ a, noRef (e a) = true) (hf : ∀ a, noRef (f a) = true) (l : List (κ × β)) : noRefO (dctO e f l) = true := by
  show (noRefs _ && noRefs _) = true
  rw [noRefs_all he, noRefs_all hf]; rfl
theorem or_t {a b : EM} {me : Me} {h h1 : MH} (e : a me h = .ok (.bl true) h1) : mOr a b me h = .ok (.bl true) h1 := by
  unfold mOr; rw [e]; rfl
theorem or_f {a b : EM} {me : Me} {h h1 : MH} {r : R W} (e : a me h = .ok (.bl false) h1) (e2 : b me h1 = r) : mOr a b me h = r := by
  unfold mOr; rw [e]; exact e2
theorem and_t {a b : EM} {me : Me} {h h1 : MH} {r : R W} (e : a me h = .ok (.bl true) h1) (e2 : b me h1 = r) : mAnd a b me h = r := by
  unfold mAnd; rw [e]; exact e2
theorem and_f {a b : EM} {me : Me} {h h1 : MH} (e : a me h = .ok (.bl false) h1) : mAnd a b me h = .ok (.bl false) h1 := by
  unfold mAnd; rw [e]; rfl
def NL : List Str := ["lib", "app", "core", "b"]
def OL : List Str := ["old", "a", "new", "z"]
theorem NL_nd : NL.Nodup := by decide +kernel
theorem OL_nd : OL.Nodup := by decide +kernel
theorem NL_NM : ∀ x ∈ NL, x ∈ NM := by decide +kernel
theorem OL_NM : ∀ x ∈ OL, x ∈ NM := by decide +kernel
section
variable {n : Nat} {ns : List Int} {by_ : Int} {S : Nat -> MH}
theorem putd_go {κ β : Type} [DecidableEq κ] {e : κ -> W} {f : β -> W} (E : KEnc e) {mo mi mv : EM} {me : Me} {h : MH} {N m k : Nat} {bs : List (Nat × O)} {l : List (κ × β)} {a : κ} {v : β} (e1 : mv me h = .ok (f v) (hp S N bs k)) (e2 : mo me (hp S N bs k) = .ok (.ref m) (hp S N bs k)) (e3 : mi me (hp S N bs k) = .ok (e a) (hp S N bs k)) (g : lookN m bs = some (dctO e f l)) (ll : l.length <= 100000) :
    sPut mo mi mv me h = .nx me (hp S N (setN m (dctO e f (dput a v l)) bs) k) := by
  rw [put_go e1 e2 e3 (hp_get g) (fitPut_map E a _ (by rw [List.length_map]; exact ll)), hp_set g, dputK_map E a v l, dputV_map E a v l]
theorem ph_pk (F : Fam n ns by_ S S) (b0 : 0 <= by_) (m : Int) (k : Nat) : ∃ (pk : List Item) (k' : Nat) (x3 : Option W), dr2 (me17 n m (some (.ref (S 0).nx)) none none none none none none none none none none none none none none) (hp S ((S 0).nx + 1) [((S 0).nx, .dct [] [])] k) = .nx (me17 n m (some (.ref (S 0).nx)) x3 none none none none none none none none none none none none none) (hp S ((S 0).nx + 1) [((S 0).nx, dctO (fun x : Str => W.str x) (fun i : Int => W.int i) pk)] k') /\ PkOk pk /\ ∀ x ∈ pk.map (·.1), x ∈ NM := by
  have FF : ∀ pk : List Item, Fam n ns by_ S (hp S ((S 0).nx + 1) [((S 0).nx, dctO (fun x : Str => W.str x) (fun i : Int => W.int i) pk)]) := fun pk => hp_fam F ((Bx.nil (Nat.le_refl _)).new (nrO_dct (fun _ => rfl) (fun _ => rfl) pk))
  obtain ⟨r, er, r0, r1⟩ := next_eq (FF []).base b0 k 3 (by decide)
  let i := (2 + r).toNat
  have ei : (2 + r : Int) = ((i : Nat) : Int) := by show (2 + r : Int) = (((2 + r).toNat : Nat) : Int); omega
  have i4 : i <= 4 := by show (2 + r).toNat <= 4; omega
  have i2 : 2 <= i := by show 2 <= (2 + r).toNat; omega
  have src : dr2s (me17 n m (some (.ref (S 0).nx)) none none none none none none none none none none none none none none) (hp S ((S 0).nx + 1) [((S 0).nx, .dct [] [])] k) = .ok ((NL.take i).map fun x => W.str x) (hp S ((S 0).nx + 1) [((S 0).nx, dctO (fun x : Str => W.str x) (fun i : Int => W.int i) [])] (k + 1)) := by
    refine seqm_go (w := .lst ((NL.take i).map fun x => W.str x)) (sl_go (w := .lst (NL.map fun x => W.str x)) (lst_go (cons_go rfl (cons_go rfl (cons_go rfl (cons_go rfl nil_go)))) rfl) rfl (os_go (bin_go rfl (call_go (cons_go rfl (cons_go rfl nil_go)) er) rfl)) ?_) rfl
    show some (W.lst (cutW (NL.map fun x => W.str x) none (some (2 + r)))) = _
    rw [ei, cut_take]
  let Inv : List Str -> Me -> MH -> Prop := fun done me h => ∃ (pk : List Item) (j : Nat) (x3 : Option W), h = hp S ((S 0).nx + 1) [((S 0).nx, dctO (fun x : Str => W.str x) (fun i : Int => W.int i) pk)] j /\ pk.map (·.1) = done /\ (∀ q ∈ pk, 1 <= q.2 /\ q.2 <= 3) /\ me = me17 n m (some (.ref (S 0).nx)) x3 none none none none none none none none none none none none none
  have nd : (NL.take i).Nodup := (List.take_sublist i NL).nodup NL_nd
  obtain ⟨me', h', e, pk, j, x3, rfl, ek, hc, rfl⟩ := fi_nx (g := dr2g) (b := dr2b) (xs := NL.take i) (enc := fun x => W.str x) Inv src ⟨[], k + 1, none, rfl, rfl, by simp, rfl⟩ (fun done x rest me h ex ⟨pk, j, x3, e1, e2, hc, e3⟩ => by
    subst e1 e3
    obtain ⟨v, ev, v0, v1⟩ := next_eq (FF pk).base b0 j 3 (by decide)
    have hx : x ∉ done := by
      rw [ex] at nd
      intro hm
      rw [List.nodup_append] at nd
      exact nd.2.2 x hm x List.mem_cons_self rfl
    have pl : pk.length <= 4 := by
      have := congrArg List.length ex
      rw [List.length_append, List.length_take] at this
      have := congrArg List.length e2
      rw [List.length_map] at this
      omega
    refine ⟨_, rfl, _, _, seq_go (putd_go kenc_str (l := pk) (a := x) (v := 1 + v) (bin_go rfl (call_go (cons_go rfl (cons_go rfl nil_go)) ev) rfl) rfl rfl look_hd (by omega)) rfl, pk ++ [(x, 1 + v)], j + 1, some (.str x), ?_, ?_, ?_, rfl⟩
    · rw [setN_hd, dput_new (by rw [<- e2] at hx; exact hx)]
    · rw [List.map_append, e2]
      rfl
    · intro q hq
      rcases List.mem_append.mp hq with z | z
      · exact hc q z
      · rw [List.mem_singleton.mp z]
        dsimp only
        omega)
  refine ⟨pk, j, x3, e, ?_, ?_⟩
  · have pl := congrArg List.length ek
    rw [List.length_map, List.length_take] at pl
    have : NL.length = 4 := rfl
    exact ⟨by omega, by omega, by rw [ek]; exact nd, hc⟩
  · intro x hx
    rw [ek] at hx
    exact NL_NM x (List.mem_of_mem_take hx)
end
section
variable {n : Nat} {ns : List Int} {by_ : Int} {S : Nat -> MH}
structure WsOk (pk : List Item) (ws : List (Item × List Str)) : Prop where
  nd : (ws.map (·.1)).Nodup
  ok : ∀ q ∈ ws, WantOk pk q
theorem ph_w1 (F : Fam n ns by_ S S) (b0 : 0 <= by_) (m : Int) {N : Nat} (hN : (S 0).nx <= N) {pk : List Item} (P : PkOk pk) {x : Str} {c : Int} (hx : look x pk = some c) (ws0 : List (Item × List Str)) (W0 : WsOk pk ws0) (l0 : ws0.length <= 100) (k : Nat) (a4 a5 a6 a7 a10 a11 a12 a13 a14 a15 a16 : Option W) :
    ∃ (ws : List (Item × List Str)) (k' : Nat) (b10 b11 : Option W), dr5b1 (me17 n m (some (mostW pk)) (some (.str x)) a4 a5 a6 a7 (some (.ref N)) (some (.lst ((pk.map (·.1)).map fun x => W.str x))) a10 a11 a12 a13 a14 a15 a16) (hp S (N + 1) [(N, dctO eItem eT ws0)] k) = .nx (me17 n m (some (mostW pk)) (some (.str x)) a4 a5 a6 a7 (some (.ref N)) (some (.lst ((pk.map (·.1)).map fun x => W.str x))) b10 b11 a12 a13 a14 a15 a16) (hp S (N + 1) [(N, dctO eItem eT ws)] k') /\ WsOk pk ws /\ ws.length <= ws0.length + 3 := by
  have l5 := P.len5
  have c13 := P.cnt _ (look_mem hx)
  dsimp only at c13
  have FF : ∀ ws : List (Item × List Str), Fam n ns by_ S (hp S (N + 1) [(N, dctO eItem eT ws)]) := fun ws => hp_fam F ((Bx.nil hN).new (nrO_dct encItem.nr encT.nr ws))
  let mm (b10 b11 : Option W) : Me := me17 n m (some (mostW pk)) (some (.str x)) a4 a5 a6 a7 (some (.ref N)) (some (.lst ((pk.map (·.1)).map fun x => W.str x))) b10 b11 a12 a13 a14 a15 a16
  let Inv : List Nat -> Me -> MH -> Prop := fun done me h => ∃ (ws : List (Item × List Str)) (j : Nat) (b10 b11 : Option W), h = hp S (N + 1) [(N, dctO eItem eT ws)] j /\ WsOk pk ws /\ ws.length <= ws0.length + done.length /\ me = mm b10 b11
  have src : dr5b1s (mm a10 a11) (hp S (N + 1) [(N, dctO eItem eT ws0)] k) = .ok ((List.range (c + 1 - 1).toNat).map fun k : Nat => W.int (1 + (k : Int))) (hp S (N + 1) [(N, dctO eItem eT ws0)] k) :=
    rng2_go (cons_go rfl (cons_go (bin_go (x := .int c) (bin_go rfl rfl (ix_dct kenc_str _ hx)) rfl rfl) nil_go)) rfl (fit62_small (by omega) (by omega))
  obtain ⟨me', h', e, ws, j, b10, b11, rfl, wo, wl, rfl⟩ := fi_nx (g := dr5b1g) (b := dr5b1b) (enc := fun k : Nat => W.int (1 + (k : Int))) Inv src ⟨ws0, k, a10, a11, rfl, W0, by simp, rfl⟩ (fun done i rest me h ex ⟨ws, j, b10, b11, e1, wo, wl, e3⟩ => by
    subst e1 e3
    have hi : i ∈ List.range (c + 1 - 1).toNat := by rw [ex]; simp
    rw [List.mem_range] at hi
    have dl : done.length <= 3 := by
      have := congrArg List.length ex
      rw [List.length_append, List.length_range] at this
      omega
    obtain ⟨q, k1, eq, sq⟩ := some_eq (FF ws).base b0 j (pk.map (·.1)) (by rw [List.length_map]; omega) 3 (by decide)
    let q' := q.filter fun y => !decide (y = x)
    have ql : q.length <= 5 := Nat.le_trans sq.length_le (by rw [List.length_map]; exact l5)
    have wq : WantOk pk ((x, 1 + (i : Int)), q') := ⟨⟨c, hx, c13.2, by show 1 <= 1 + (i : Int); omega, by show 1 + (i : Int) <= c; omega⟩, fun y hy => sq.subset (List.mem_filter.mp hy).1, fun hm => by
      have := (List.mem_filter.mp hm).2
      simp at this, (List.filter_sublist.trans sq).nodup P.nd, Nat.le_trans (List.length_filter_le _ _) (by omega)⟩
    have s1 : dr5b1b1 (mm (some (.int (1 + (i : Int)))) b11) (hp S (N + 1) [(N, dctO eItem eT ws)] j) = .nx (mm (some (.int (1 + (i : Int)))) (some (eT q'))) (hp S (N + 1) [(N, dctO eItem eT ws)] k1) :=
      set_go (cb_go (cons_go (lc_go (xs := q) (enc := fun y => W.str y) (f := fun y => W.str y) (p := fun y => !decide (y = x)) (seqm_go (call_go (cons_go rfl (cons_go rfl (cons_go rfl nil_go))) eq) rfl) (by omega) fun y _ => ⟨_, rfl, bin_go rfl rfl (cmp_ne enc_str (by decide) _ _ _), fun _ => rfl⟩) nil_go) rfl)
    have t1 : (mBin (wCmpB true) (mV 11) (mTup mNil)) (mm (some (.int (1 + (i : Int)))) (some (eT q'))) (hp S (N + 1) [(N, dctO eItem eT ws)] k1) = .ok (.bl (!decide (q' = []))) (hp S (N + 1) [(N, dctO eItem eT ws)] k1) := bin_go (y := eT []) rfl rfl (cmp_ne encT (by decide) _ _ _)
    have sp : ∀ k2, dr5b1b3a (mm (some (.int (1 + (i : Int)))) (some (eT q'))) (hp S (N + 1) [(N, dctO eItem eT ws)] k2) = .nx (mm (some (.int (1 + (i : Int)))) (some (eT q'))) (hp S (N + 1) [(N, dctO eItem eT (dput (x, 1 + (i : Int)) q' ws))] k2) := fun k2 => by
      refine seq_go (putd_go (e := eItem) (f := eT) kenc_item (l := ws) (a := (x, 1 + (i : Int))) (v := q') rfl rfl (tup_go (cons_go rfl (cons_go rfl nil_go)) rfl) look_hd (by omega)) ?_
      rw [setN_hd]
      rfl
    have wp : WsOk pk (dput (x, 1 + (i : Int)) q' ws) := ⟨dput_nodup wo.nd, fun z hz => by
      rcases dput_mem hz with y | y
      · rw [y]; exact wq
      · exact wo.ok z y⟩
    have dpl := dput_len (x, 1 + (i : Int)) q' ws
    have dn : (done ++ [i]).length = done.length + 1 := by simp
    by_cases hq : q' = []
    · rw [decide_eq_true hq] at t1
      obtain ⟨r, er, r0, r1⟩ := next_eq (FF ws).base b0 k1 6 (by decide)
      have t2 : dr5b1b3t (mm (some (.int (1 + (i : Int)))) (some (eT q'))) (hp S (N + 1) [(N, dctO eItem eT ws)] k1) = .ok (.bl (decide (r = 0))) (hp S (N + 1) [(N, dctO eItem eT ws)] (k1 + 1)) := or_f t1 (bin_go (call_go (cons_go rfl (cons_go rfl nil_go)) er) rfl (cmp_eq enc_int (by decide) _ _ _))
      by_cases hr : r = 0
      · rw [decide_eq_true hr] at t2
        exact ⟨_, rfl, _, _, seq_go s1 (seq_go rfl (seq_go (if_t t2 (sp _)) rfl)), _, _, _, _, rfl, wp, by omega, rfl⟩
      · rw [decide_eq_false hr] at t2
        exact ⟨_, rfl, _, _, seq_go s1 (seq_go rfl (seq_go (if_f t2 rfl) rfl)), _, _, _, _, rfl, wo, by omega, rfl⟩
    · rw [decide_eq_false hq] at t1
      exact ⟨_, rfl, _, _, seq_go s1 (seq_go rfl (seq_go (if_t (or_t t1) (sp _)) rfl)), _, _, _, _, rfl, wp, by omega, rfl⟩)
  refine ⟨ws, j, b10, b11, e, wo, ?_⟩
  rw [List.length_range] at wl
  omega
theorem ph_w (F : Fam n ns by_ S S) (b0 : 0 <= by_) (m : Int) {N : Nat} (hN : (S 0).nx <= N) {pk : List Item} (P : PkOk pk) (k : Nat) (a3 a4 a5 a6 a7 a10 a11 a12 a13 a14 a15 a16 : Option W) :
    ∃ (ws : List (Item × List Str)) (k' : Nat) (b3 b10 b11 : Option W), dr5 (me17 n m (some (mostW pk)) a3 a4 a5 a6 a7 (some (.ref N)) (some (.lst ((pk.map (·.1)).map fun x => W.str x))) a10 a11 a12 a13 a14 a15 a16) (hp S (N + 1) [(N, .dct [] [])] k) = .nx (me17 n m (some (mostW pk)) b3 a4 a5 a6 a7 (some (.ref N)) (some (.lst ((pk.map (·.1)).map fun x => W.str x))) b10 b11 a12 a13 a14 a15 a16) (hp S (N + 1) [(N, dctO eItem eT ws)] k') /\ WsOk pk ws /\ ws.length <= 100 := by
  have l5 := P.len5
  let Inv : List Str -> Me -> MH -> Prop := fun done me h => ∃ (ws : List (Item × List Str)) (j : Nat) (b3 b10 b11 : Option W), h = hp S (N + 1) [(N, dctO eItem eT ws)] j /\ WsOk pk ws /\ ws.length <= 3 * done.length /\ me = me17 n m (some (mostW pk)) b3 a4 a5 a6 a7 (some (.ref N)) (some (.lst ((pk.map (·.1)).map fun x => W.str x))) b10 b11 a12 a13 a14 a15 a16
  obtain ⟨me', h', e, ws, j, b3, b10, b11, rfl, wo, wl, rfl⟩ := fi_nx (src := dr5s) (g := dr5g) (b := dr5b) (xs := pk.map (·.1)) (enc := fun x : Str => W.str x) (me := me17 n m (some (mostW pk)) a3 a4 a5 a6 a7 (some (.ref N)) (some (.lst ((pk.map (·.1)).map fun x => W.str x))) a10 a11 a12 a13 a14 a15 a16) (h := hp S (N + 1) [(N, .dct [] [])] k) Inv (seqm_go rfl rfl) ⟨[], k, a3, a10, a11, rfl, ⟨by simp, by simp⟩, by simp, rfl⟩ (fun done x rest me h ex ⟨ws, j, b3, b10, b11, e1, wo, wl, e3⟩ => by
    subst e1 e3
    have hx : x ∈ pk.map (·.1) := by rw [ex]; simp
    obtain ⟨c, hc⟩ := look_some hx
    have dl : done.length + 1 <= 5 := by
      have := congrArg List.length ex
      rw [List.length_append, List.length_map, List.length_cons] at this
      omega
    obtain ⟨ws', k', b10', b11', e, wo', wl'⟩ := ph_w1 F b0 m hN P hc ws wo (by omega) j a4 a5 a6 a7 b10 b11 a12 a13 a14 a15 a16
    exact ⟨_, rfl, _, _, seq_go e rfl, ws', k', _, b10', b11', rfl, wo', by simp only [List.length_append, List.length_singleton]; omega, rfl⟩)
  rw [List.length_map] at wl
  exact ⟨ws, j, b3, b10, b11, e, wo, by omega⟩
end
theorem and_t1 {α : Type} {l : List α} {x : α} (h : x ∈ l) : [x].Sublist l := List.singleton_sublist.mpr h
section
variable {n : Nat} {ns : List Int} {by_ : Int} {S : Nat -> MH}
def PairOk (pk : List Item) (q : Item × Item) : Prop := ItemOk pk q.1 /\ ItemOk pk q.2 /\ q.1.1 ≠ q.2.1
theorem ph_pairs (F : Fam n ns by_ S S) (b0 : 0 <= by_) (m : Int) {N : Nat} (hN : (S 0).nx <= N) {pk : List Item} (P : PkOk pk) (k : Nat) (a3 a4 a5 a6 a7 a8 a9 a10 a11 a12 a13 a14 a15 a16 : Option W) :
    ∃ (ps : List (Item × Item)) (k' : Nat), dr7 (me17 n m (some (mostW pk)) a3 a4 a5 a6 a7 a8 a9 a10 a11 a12 a13 a14 a15 a16) (hp S N [] k) = .nx (me17 n m (some (mostW pk)) a3 (some (.lst (ps.map ePair))) a5 a6 a7 a8 a9 a10 a11 a12 a13 a14 a15 a16) (hp S N [] k') /\ (∀ q ∈ ps, PairOk pk q) /\ ps.length <= 3 := by
  have FF : Fam n ns by_ S (hp S N []) := hp_fam F (Bx.nil hN)
  obtain ⟨r, er, r0, r1⟩ := next_eq FF.base b0 k 4 (by decide)
  have rr : r = ((r.toNat : Nat) : Int) := by omega
  rw [rr] at er
  obtain ⟨ps, h', e, j, rfl, ok, lp⟩ := lc_st (α := Nat) (β := Item × Item) (enc := fun k : Nat => W.int (k : Int)) (f := ePair) (src := mRng1 (mCons (mCall m__law_next [] (mCons (mV 0) (mCons (mC (.int 4)) mNil))) mNil)) (g := gSet 6) (t := yes) (e := mCall m__law_two [] (mCons (mV 0) (mCons (mV 2) mNil))) (vs := [6]) (me := me17 n m (some (mostW pk)) a3 a4 a5 a6 a7 a8 a9 a10 a11 a12 a13 a14 a15 a16) (h := hp S N [] k) (xs := List.range r.toNat) (fun done out h => ∃ j, h = hp S N [] j /\ (∀ q ∈ out, PairOk pk q) /\ out.length = done.length)
    (rng1_go (cons_go (call_go (cons_go rfl (cons_go rfl nil_go)) er) nil_go) (fit62_nat (by omega))) (by rw [List.length_range]; omega) ⟨k + 1, rfl, by simp, rfl⟩ (fun done x rest out h ex ⟨j, e1, ok, lo⟩ => by
      subst e1
      obtain ⟨q, k2, eq, o1, o2, o3⟩ := two_eq P FF.base b0 j
      refine ⟨_, rfl, .inr ⟨_, q, _, rfl, call_go (cons_go rfl (cons_go rfl nil_go)) eq, k2, rfl, fun z hz => ?_, by simp [lo]⟩⟩
      rcases List.mem_append.mp hz with y | y
      · exact ok z y
      · rw [List.mem_singleton.mp y]; exact ⟨o1, o2, o3⟩)
  rw [List.length_range] at lp
  exact ⟨ps, j, set_go e, ok, by omega⟩
theorem appd_go {α : Type} {f : α -> W} {mo : EM} {as : AM} {me : Me} {N m k k' : Nat} {bs : List (Nat × O)} {l : List α} {a : α} (e1 : mo me (hp S N bs k) = .ok (.ref m) (hp S N bs k)) (g : lookN m bs = some (.lst (l.map f))) (e2 : as me (hp S N bs k) = .ok [f a] (hp S N bs k')) (ll : l.length <= 1000) :
    sExpr (mMeth isL fAppend mo as) me (hp S N bs k) = .nx me (hp S N (setN m (.lst ((l ++ [a]).map f)) bs) k') := by
  rw [expr_go (meth_go e1 (isL_ref (hp_get g)) e2 (append_go (hp_get g) (by rw [List.length_map]; omega))), hp_set g, List.map_append]
  rfl
theorem ph_asked (F : Fam n ns by_ S S) (b0 : 0 <= by_) (m : Int) {N : Nat} (hN : (S 0).nx <= N) {pk : List Item} (P : PkOk pk) (k : Nat) (a3 a4 a6 a7 a8 a10 a11 a12 a13 a14 a15 a16 : Option W) :
    ∃ (qs : List (List Str)) (k' : Nat) (b6 b11 : Option W), dr9 (me17 n m (some (mostW pk)) a3 a4 (some (.ref N)) a6 a7 a8 (some (.lst ((pk.map (·.1)).map fun x => W.str x))) a10 a11 a12 a13 a14 a15 a16) (hp S (N + 1) [(N, .lst [])] k) = .nx (me17 n m (some (mostW pk)) a3 a4 (some (.ref N)) b6 a7 a8 (some (.lst ((pk.map (·.1)).map fun x => W.str x))) a10 b11 a12 a13 a14 a15 a16) (hp S (N + 1) [(N, .lst (qs.map eT))] k') /\ (∀ q ∈ qs, q ≠ [] /\ q.Sublist (pk.map (·.1))) /\ 1 <= qs.length /\ qs.length <= 2 := by
  have l2 := P.len2
  have l5 := P.len5
  have FF : ∀ qs : List (List Str), Fam n ns by_ S (hp S (N + 1) [(N, .lst (qs.map eT))]) := fun qs => hp_fam F ((Bx.nil hN).new (noRefs_map encT qs))
  obtain ⟨r, er, r0, r1⟩ := next_eq (FF []).base b0 k 2 (by decide)
  have rr : 1 + r = (((1 + r).toNat : Nat) : Int) := by omega
  let mm (b6 b11 : Option W) : Me := me17 n m (some (mostW pk)) a3 a4 (some (.ref N)) b6 a7 a8 (some (.lst ((pk.map (·.1)).map fun x => W.str x))) a10 b11 a12 a13 a14 a15 a16
  let Inv : List Nat -> Me -> MH -> Prop := fun done me h => ∃ (qs : List (List Str)) (j : Nat) (b6 b11 : Option W), h = hp S (N + 1) [(N, .lst (qs.map eT))] j /\ (∀ q ∈ qs, q ≠ [] /\ q.Sublist (pk.map (·.1))) /\ qs.length = done.length /\ me = mm b6 b11
  have src : dr9s (mm a6 a11) (hp S (N + 1) [(N, .lst (([] : List (List Str)).map eT))] k) = .ok ((List.range (1 + r).toNat).map fun k : Nat => W.int (k : Int)) (hp S (N + 1) [(N, .lst (([] : List (List Str)).map eT))] (k + 1)) :=
    rng1_go (cons_go (bin_go rfl (call_go (cons_go rfl (cons_go rfl nil_go)) er) (congrArg (fun z => some (W.int z)) rr)) nil_go) (fit62_nat (by omega))
  obtain ⟨me', h', e, qs, j, b6, b11, rfl, ok, lq, rfl⟩ := fi_nx (g := dr9g) (b := dr9b) (xs := List.range (1 + r).toNat) (enc := fun k : Nat => W.int (k : Int)) Inv src ⟨[], k + 1, a6, a11, rfl, by simp, rfl, rfl⟩ (fun done i rest me h ex ⟨qs, j, b6, b11, e1, ok, lq, e3⟩ => by
    subst e1 e3
    have dl : done.length <= 2 := by
      have := congrArg List.length ex
      rw [List.length_append, List.length_range] at this
      omega
    obtain ⟨q, k1, eq, sq⟩ := some_eq (FF qs).base b0 j (pk.map (·.1)) (by rw [List.length_map]; omega) 2 (by decide)
    have s1 : dr9b1 (mm (some (.int (i : Int))) b11) (hp S (N + 1) [(N, .lst (qs.map eT))] j) = .nx (mm (some (.int (i : Int))) (some (eT q))) (hp S (N + 1) [(N, .lst (qs.map eT))] k1) := set_go (call_go (cons_go rfl (cons_go rfl (cons_go rfl nil_go))) eq)
    have t1 : (mBin (wCmpB true) (mV 11) (mTup mNil)) (mm (some (.int (i : Int))) (some (eT q))) (hp S (N + 1) [(N, .lst (qs.map eT))] k1) = .ok (.bl (!decide (q = []))) (hp S (N + 1) [(N, .lst (qs.map eT))] k1) := bin_go (y := eT []) rfl rfl (cmp_ne encT (by decide) _ _ _)
    have add : ∀ (q2 : List Str), q2 ≠ [] /\ q2.Sublist (pk.map (·.1)) -> ∀ z ∈ qs ++ [q2], z ≠ [] /\ z.Sublist (pk.map (·.1)) := fun q2 h2 z hz => by
      rcases List.mem_append.mp hz with y | y
      · exact ok z y
      · rw [List.mem_singleton.mp y]; exact h2
    by_cases hq : q = []
    · rw [decide_eq_true hq] at t1
      have ne : pk.map (·.1) ≠ [] := by
        intro z
        have := congrArg List.length z
        rw [List.length_map, List.length_nil] at this
        omega
      obtain ⟨x, hx, k2, ep⟩ := pick_eq (f := fun x : Str => W.str x) (fun _ => rfl) (FF qs).base b0 k1 ne
      refine ⟨_, rfl, _, _, seq_go s1 (seq_go rfl (seq_go (appd_go (f := eT) (l := qs) (a := [x]) (k' := k2) rfl look_hd (cons_go (ifx_go t1 (tup_go (cons_go (call_go (cons_go rfl (cons_go rfl nil_go)) ep) nil_go) rfl)) nil_go) (by omega)) rfl)), qs ++ [[x]], k2, _, _, ?_, add [x] ⟨by simp, and_t1 hx⟩, by simp [lq], rfl⟩
      rw [setN_hd]
    · rw [decide_eq_false hq] at t1
      refine ⟨_, rfl, _, _, seq_go s1 (seq_go rfl (seq_go (appd_go (f := eT) (l := qs) (a := q) (k' := k1) rfl look_hd (cons_go (ifx_go t1 rfl) nil_go) (by omega)) rfl)), qs ++ [q], k1, _, _, ?_, add q ⟨hq, sq⟩, by simp [lq], rfl⟩
      rw [setN_hd])
  rw [List.length_range] at lq
  exact ⟨qs, j, b6, b11, e, ok, by omega, by omega⟩
end
theorem vers_of {l : List Int} {c : Int} {t : Nat} (s : l.Sublist ((List.range t).map fun k : Nat => 1 + (k : Int))) (hc : (t : Int) <= c) (ne : l ≠ []) (t3 : t <= 100) : VersOk l c where
  ne := ne
  rng := fun v hv => by
    obtain ⟨k, hk, rfl⟩ := List.mem_map.mp (s.subset hv)
    rw [List.mem_range] at hk
    omega
  len := by
    have := s.length_le
    rw [List.length_map, List.length_range] at this
    omega
  up := by
    have pw : ((List.range t).map fun k : Nat => 1 + (k : Int)).Pairwise (· < ·) := by
      rw [List.pairwise_map]
      exact (List.pairwise_lt_range (n := t)).imp fun h => by omega
    have pl := pw.sublist s
    clear s ne pw
    induction l with
    | nil => intro q hq; simp at hq
    | cons a r ih =>
      rw [List.pairwise_cons] at pl
      cases r with
      | nil => intro q hq; simp at hq
      | cons b r2 =>
        intro q hq
        simp only [List.drop_succ_cons, List.drop_zero, List.zip_cons_cons, List.mem_cons] at hq
        rcases hq with rfl | hq
        · exact pl.1 b List.mem_cons_self
        · exact ih pl.2 q (by simpa using hq)
section
variable {n : Nat} {ns : List Int} {by_ : Int} {S : Nat -> MH}
abbrev eI (i : Int) : W := .int i
theorem ph_side (F : Fam n ns by_ S S) (b0 : 0 <= by_) (m : Int) {M N N2 : Nat} (hM : (S 0).nx <= M) (MN : M < N) (NN : N < N2) {o7 : O} (nr7 : noRefO o7 = true) {pk : List Item} (P : PkOk pk) {it : Item} {c : Int} (hc : look it.1 pk = some c) (i1 : 1 <= it.2) (i2 : it.2 <= c) (sd : List Side) (k : Nat) (a3 a4 a5 a6 a7 a8 a9 a10 a14 a15 a16 : Option W) (ls : sd.length <= 100) :
    ∃ (vs : List Int) (k' : Nat) (b16 : Option W), dr12b5b2 (me17 n m (some (mostW pk)) a3 a4 a5 a6 a7 a8 a9 a10 (some (.ref N2)) (some (.ref N)) (some (eItem it)) a14 a15 a16) (hp S (N2 + 1) [(N2, .lst []), (N, .lst (sd.map eSide)), (M, o7)] k) = .nx (me17 n m (some (mostW pk)) a3 a4 a5 a6 a7 a8 a9 a10 (some (.ref N2)) (some (.ref N)) (some (eItem it)) a14 a15 b16) (hp S (N2 + 1) [(N2, .lst (vs.map eI)), (N, .lst (sd.map eSide)), (M, o7)] k') /\ VersOk vs c := by
  have c13 := P.cnt _ (look_mem hc)
  dsimp only at c13
  have B7 : Bx (S 0).nx (M + 1) [(M, o7)] := (Bx.nil hM).new nr7
  have nrS : noRefO (.lst (sd.map eSide)) = true := noRefs_all nr_side sd
  have BS : Bx (S 0).nx (N + 1) [(N, .lst (sd.map eSide)), (M, o7)] := (B7.up MN).new nrS
  have FF : ∀ vs : List Int, Fam n ns by_ S (hp S (N2 + 1) [(N2, .lst (vs.map eI)), (N, .lst (sd.map eSide)), (M, o7)]) := fun vs => hp_fam F ((BS.up NN).new (noRefs_map enc_int vs : noRefO (.lst (vs.map eI)) = true))
  let mm (b16 : Option W) : Me := me17 n m (some (mostW pk)) a3 a4 a5 a6 a7 a8 a9 a10 (some (.ref N2)) (some (.ref N)) (some (eItem it)) a14 a15 b16
  let Inv : List Nat -> Me -> MH -> Prop := fun done me h => ∃ (vs : List Int) (j : Nat) (b16 : Option W), h = hp S (N2 + 1) [(N2, .lst (vs.map eI)), (N, .lst (sd.map eSide)), (M, o7)] j /\ vs.Sublist (done.map fun k : Nat => 1 + (k : Int)) /\ (it.2 ∈ (done.map fun k : Nat => 1 + (k : Int)) -> it.2 ∈ vs) /\ me = mm b16
  have src : dr12b5b2s (mm a16) (hp S (N2 + 1) [(N2, .lst (([] : List Int).map eI)), (N, .lst (sd.map eSide)), (M, o7)] k) = .ok ((List.range (c + 1 - 1).toNat).map fun k : Nat => W.int (1 + (k : Int))) (hp S (N2 + 1) [(N2, .lst (([] : List Int).map eI)), (N, .lst (sd.map eSide)), (M, o7)] k) :=
    rng2_go (cons_go rfl (cons_go (bin_go (x := .int c) (bin_go (y := .str it.1) rfl (bin_go rfl rfl rfl) (ix_dct kenc_str _ hc)) rfl rfl) nil_go)) rfl (fit62_small (by omega) (by omega))
  obtain ⟨me', h', e, vs, j, b16, rfl, sb, hi, rfl⟩ := fi_nx (g := dr12b5b2g) (b := dr12b5b2b) (enc := fun k : Nat => W.int (1 + (k : Int))) Inv src ⟨[], k, a16, rfl, by simp, by simp, rfl⟩ (fun done i rest me h ex ⟨vs, j, b16, e1, sb, hi, e3⟩ => by
    subst e1 e3
    have dl : done.length <= 3 := by
      have := congrArg List.length ex
      rw [List.length_append, List.length_range] at this
      omega
    have vl : vs.length <= 3 := Nat.le_trans sb.length_le (by rw [List.length_map]; exact dl)
    have dm : (done ++ [i]).map (fun k : Nat => 1 + (k : Int)) = done.map (fun k : Nat => 1 + (k : Int)) ++ [1 + (i : Int)] := by rw [List.map_append]; rfl
    have t1 : (mBin (wCmpB false) (mV 16) (mBin wIx (mV 13) (mC (.int 1)))) (mm (some (.int (1 + (i : Int))))) (hp S (N2 + 1) [(N2, .lst (vs.map eI)), (N, .lst (sd.map eSide)), (M, o7)] j) = .ok (.bl (decide (1 + (i : Int) = it.2))) (hp S (N2 + 1) [(N2, .lst (vs.map eI)), (N, .lst (sd.map eSide)), (M, o7)] j) := bin_go (y := .int it.2) rfl (bin_go rfl rfl rfl) (cmp_eq enc_int (by decide) _ _ _)
    have ap : ∀ k2, dr12b5b2b1a (mm (some (.int (1 + (i : Int))))) (hp S (N2 + 1) [(N2, .lst (vs.map eI)), (N, .lst (sd.map eSide)), (M, o7)] k2) = .nx (mm (some (.int (1 + (i : Int))))) (hp S (N2 + 1) [(N2, .lst ((vs ++ [1 + (i : Int)]).map eI)), (N, .lst (sd.map eSide)), (M, o7)] k2) := fun k2 => by
      refine seq_go (appd_go (f := eI) (l := vs) (a := 1 + (i : Int)) (k' := k2) rfl look_hd (cons_go rfl nil_go) (by omega)) ?_
      rw [setN_hd]
      rfl
    have sb2 : (vs ++ [1 + (i : Int)]).Sublist ((done ++ [i]).map fun k : Nat => 1 + (k : Int)) := by
      rw [dm]
      exact sb.append (List.Sublist.refl _)
    have hi2 : it.2 ∈ (done ++ [i]).map (fun k : Nat => 1 + (k : Int)) -> it.2 ∈ vs ++ [1 + (i : Int)] := fun hm => by
      rw [dm] at hm
      rcases List.mem_append.mp hm with y | y
      · exact List.mem_append.mpr (.inl (hi y))
      · exact List.mem_append.mpr (.inr y)
    by_cases hv : 1 + (i : Int) = it.2
    · rw [decide_eq_true hv] at t1
      exact ⟨_, rfl, _, _, seq_go (if_t (or_t t1) (ap _)) rfl, _, _, _, rfl, sb2, hi2, rfl⟩
    · rw [decide_eq_false hv] at t1
      obtain ⟨r, er, r0, r1⟩ := next_eq (FF vs).base b0 j 5 (by decide)
      have t2 : dr12b5b2b1t (mm (some (.int (1 + (i : Int))))) (hp S (N2 + 1) [(N2, .lst (vs.map eI)), (N, .lst (sd.map eSide)), (M, o7)] j) = .ok (.bl (decide (r = 0))) (hp S (N2 + 1) [(N2, .lst (vs.map eI)), (N, .lst (sd.map eSide)), (M, o7)] (j + 1)) := or_f t1 (bin_go (call_go (cons_go rfl (cons_go rfl nil_go)) er) rfl (cmp_eq enc_int (by decide) _ _ _))
      by_cases hr : r = 0
      · rw [decide_eq_true hr] at t2
        exact ⟨_, rfl, _, _, seq_go (if_t t2 (ap _)) rfl, _, _, _, rfl, sb2, hi2, rfl⟩
      · rw [decide_eq_false hr] at t2
        refine ⟨_, rfl, _, _, seq_go (if_f t2 rfl) rfl, vs, _, _, rfl, ?_, fun hm => ?_, rfl⟩
        · rw [dm]
          exact sb.trans (List.sublist_append_left _ _)
        · rw [dm] at hm
          rcases List.mem_append.mp hm with y | y
          · exact hi y
          · exact absurd (List.mem_singleton.mp y).symm hv)
  refine ⟨vs, j, b16, e, vers_of sb (by omega) (fun z => ?_) (by omega)⟩
  have : it.2 ∈ vs := hi (List.mem_map.mpr ⟨(it.2 - 1).toNat, List.mem_range.mpr (by omega), by omega⟩)
  rw [z] at this
  cases this
end
section
variable {n : Nat} {ns : List Int} {by_ : Int} {S : Nat -> MH}
theorem frzl_go (F : Fam n ns by_ S S) {i m N k : Nat} {me : Me} {bs : List (Nat × O)} {ws : List W} (e : nth me i = some (.ref m)) (g : lookN m bs = some (.lst ws)) (hm : (S 0).nx <= m) : sFrz i me (hp S N bs k) = .nx (put me i (.lst ws)) (hp S N (delN m bs) k) := by
  rw [frz_go e (hp_get g), hp_del F hm]
theorem frzk_go (F : Fam n ns by_ S S) {i m N k : Nat} {me : Me} {bs : List (Nat × O)} {ks vs : List W} (e : nth me i = some (.ref m)) (g : lookN m bs = some (.dct ks vs)) (hm : (S 0).nx <= m) : sFrz i me (hp S N bs k) = .nx (put me i (.dct ks vs)) (hp S N (delN m bs) k) := by
  rw [frzd_go e (hp_get g), hp_del F hm]
def SideOk (pk : List Item) (sd : Side) : Prop := ∃ c, look sd.1 pk = some c /\ c <= 3 /\ VersOk sd.2 c
theorem ph_sides (F : Fam n ns by_ S S) (b0 : 0 <= by_) (m : Int) {M N : Nat} (hM : (S 0).nx <= M) (MN : M < N) {o7 : O} (nr7 : noRefO o7 = true) {pk : List Item} (P : PkOk pk) {q : Item × Item} (hq : PairOk pk q) (k : Nat) (a3 a4 a5 a6 a7 a8 a9 a10 a11 a13 a16 : Option W) :
    ∃ (s1 s2 : Side) (k' N' : Nat) (b11 b13 b16 : Option W), N < N' /\ dr12b5 (me17 n m (some (mostW pk)) a3 a4 a5 a6 a7 a8 a9 a10 a11 (some (.ref N)) a13 (some (eItem q.1)) (some (eItem q.2)) a16) (hp S (N + 1) [(N, .lst []), (M, o7)] k) = .nx (me17 n m (some (mostW pk)) a3 a4 a5 a6 a7 a8 a9 a10 b11 (some (.ref N)) b13 (some (eItem q.1)) (some (eItem q.2)) b16) (hp S N' [(N, .lst ([s1, s2].map eSide)), (M, o7)] k') /\ SideOk pk s1 /\ SideOk pk s2 /\ s1.1 = q.1.1 /\ s2.1 = q.2.1 := by
  let mm (b11 b13 b16 : Option W) : Me := me17 n m (some (mostW pk)) a3 a4 a5 a6 a7 a8 a9 a10 b11 (some (.ref N)) b13 (some (eItem q.1)) (some (eItem q.2)) b16
  let Inv : List Item -> Me -> MH -> Prop := fun done me h => ∃ (sd : List Side) (j N' : Nat) (b11 b13 b16 : Option W), N < N' /\ h = hp S N' [(N, .lst (sd.map eSide)), (M, o7)] j /\ (∀ s ∈ sd, SideOk pk s) /\ sd.map (·.1) = done.map (·.1) /\ me = mm b11 b13 b16
  obtain ⟨me', h', e, sd, j, N', b11, b13, b16, lt, rfl, ok, es, rfl⟩ := fi_nx (src := dr12b5s) (g := dr12b5g) (b := dr12b5b) (xs := [q.1, q.2]) (enc := eItem) (me := mm a11 a13 a16) (h := hp S (N + 1) [(N, .lst []), (M, o7)] k) Inv (seqm_go (tup_go (cons_go rfl (cons_go rfl nil_go)) rfl) rfl) ⟨[], k, N + 1, a11, a13, a16, Nat.lt_succ_self _, rfl, by simp, rfl, rfl⟩ (fun done it rest me h ex ⟨sd, j, N', b11, b13, b16, lt, e1, ok, es, e3⟩ => by
    subst e1 e3
    have hit : ItemOk pk it := by
      have : it ∈ [q.1, q.2] := by rw [ex]; simp
      simp only [List.mem_cons, List.not_mem_nil, or_false] at this
      rcases this with rfl | rfl
      · exact hq.1
      · exact hq.2.1
    obtain ⟨c, hc, c3, i1, i2⟩ := hit
    have sl : sd.length <= 2 := by
      have h1 := congrArg List.length ex
      have h2 := congrArg List.length es
      rw [List.length_append] at h1
      rw [List.length_map, List.length_map] at h2
      simp only [List.length_cons, List.length_nil] at h1
      omega
    obtain ⟨vs, k', c16, e4, vo⟩ := ph_side F b0 m (N := N) (N2 := N') hM MN lt nr7 P hc i1 i2 sd j a3 a4 a5 a6 a7 a8 a9 a10 (some (eItem q.1)) (some (eItem q.2)) b16 (by omega)
    have hN' : (S 0).nx <= N' := by omega
    have nN : N' ≠ N := by omega
    have s1 : dr12b5b1 (mm b11 (some (eItem it)) b16) (hp S N' [(N, .lst (sd.map eSide)), (M, o7)] j) = .nx (mm (some (.ref N')) (some (eItem it)) b16) (hp S (N' + 1) [(N', .lst []), (N, .lst (sd.map eSide)), (M, o7)] j) := set_go (box_go nil_go rfl)
    have s3 : dr12b5b3 (mm (some (.ref N')) (some (eItem it)) c16) (hp S (N' + 1) [(N', .lst (vs.map eI)), (N, .lst (sd.map eSide)), (M, o7)] k') = .nx (mm (some (.lst (vs.map eI))) (some (eItem it)) c16) (hp S (N' + 1) [(N, .lst (sd.map eSide)), (M, o7)] k') := by
      refine (frzl_go F (ws := vs.map eI) (m := N') rfl look_hd hN').trans ?_
      rw [delN_hd, delN_tl nN, delN_tl (show N' ≠ M by omega)]
      rfl
    have s4 : dr12b5b4 (mm (some (.lst (vs.map eI))) (some (eItem it)) c16) (hp S (N' + 1) [(N, .lst (sd.map eSide)), (M, o7)] k') = .nx (mm (some (.lst (vs.map eI))) (some (eItem it)) c16) (hp S (N' + 1) [(N, .lst ((sd ++ [(it.1, vs)]).map eSide)), (M, o7)] k') := by
      refine (appd_go (f := eSide) (l := sd) (a := (it.1, vs)) (k' := k') rfl look_hd (cons_go (tup_go (cons_go (w := .str it.1) (bin_go rfl rfl rfl) (cons_go (cb_go (cons_go rfl nil_go) rfl) nil_go)) rfl) nil_go) (by omega)).trans ?_
      rw [setN_hd]
    refine ⟨_, rfl, _, _, seq_go s1 (seq_go e4 (seq_go s3 (seq_go s4 rfl))), sd ++ [(it.1, vs)], k', N' + 1, _, _, _, by omega, rfl, ?_, ?_, rfl⟩
    · intro s hs
      rcases List.mem_append.mp hs with y | y
      · exact ok s y
      · rw [List.mem_singleton.mp y]
        exact ⟨c, hc, c3, vo⟩
    · rw [List.map_append, List.map_append, es]
      rfl)
  rcases sd with _ | ⟨s1, _ | ⟨s2, _ | ⟨s3, r⟩⟩⟩ <;> simp only [List.map_cons, List.map_nil, List.cons.injEq, reduceCtorEq, and_false, and_true] at es
  exact ⟨s1, s2, j, N', b11, b13, b16, lt, e, ok s1 (by simp), ok s2 (by simp), es.1, es.2⟩
theorem ph_rows (F : Fam n ns by_ S S) (b0 : 0 <= by_) {m : Int} (m0 : 0 <= m) {M : Nat} (hM : (S 0).nx <= M) {pk : List Item} (P : PkOk pk) (hnm : ∀ x ∈ pk.map (·.1), x ∈ NM) {ps : List (Item × Item)} (hps : ∀ q ∈ ps, PairOk pk q) (k : Nat) (a3 a5 a6 a8 a9 a10 a11 a12 a13 a14 a15 a16 : Option W) :
    ∃ (rows : List (Str × Row)) (k' N' : Nat) (me' : Me), M < N' /\ dr12 (me17 n m (some (mostW pk)) a3 (some (.lst (ps.map ePair))) a5 a6 (some (.ref M)) a8 a9 a10 a11 a12 a13 a14 a15 a16) (hp S (M + 1) [(M, .dct [] [])] k) = .nx me' (hp S N' [(M, dctO (fun x : Str => W.str x) eRow rows)] k') /\ (∀ q ∈ rows, RowOk pk q.2) /\ (rows.map (·.1)).Nodup /\ (∀ x ∈ rows.map (·.1), x ∈ NM) /\ rows.length <= 4 /\ (∃ b3 b11 b12 b13 b14 b15 b16, me' = me17 n m (some (mostW pk)) b3 (some (.lst (ps.map ePair))) a5 a6 (some (.ref M)) a8 a9 a10 b11 b12 b13 b14 b15 b16) := by
  have nrR : ∀ r : Row, noRef (eRow r) = true := fun r => by
    show (noRef (eSide r.1) && (noRef (eSide r.2.1) && true)) = true
    rw [nr_side, nr_side]; rfl
  have nrO : ∀ rows : List (Str × Row), noRefO (dctO (fun x : Str => W.str x) eRow rows) = true := fun rows => nrO_dct (fun _ => rfl) nrR rows
  have BB : ∀ (N' : Nat) (rows : List (Str × Row)), M < N' -> Bx (S 0).nx N' [(M, dctO (fun x : Str => W.str x) eRow rows)] := fun N' rows lt => ((Bx.nil hM).new (nrO rows)).up lt
  have FF : ∀ (N' : Nat) (rows : List (Str × Row)), M < N' -> Fam n ns by_ S (hp S N' [(M, dctO (fun x : Str => W.str x) eRow rows)]) := fun N' rows lt => hp_fam F (BB N' rows lt)
  obtain ⟨r, er, r0, r1⟩ := next_eq (FF (M + 1) [] (Nat.lt_succ_self _)).base b0 k (m + 1) (by omega)
  have rr : r = ((r.toNat : Nat) : Int) := by omega
  let mm (b3 b11 b12 b13 b14 b15 b16 : Option W) : Me := me17 n m (some (mostW pk)) b3 (some (.lst (ps.map ePair))) a5 a6 (some (.ref M)) a8 a9 a10 b11 b12 b13 b14 b15 b16
  have src : dr12s (mm a3 a11 a12 a13 a14 a15 a16) (hp S (M + 1) [(M, dctO (fun x : Str => W.str x) eRow [])] k) = .ok ((OL.take r.toNat).map fun x => W.str x) (hp S (M + 1) [(M, dctO (fun x : Str => W.str x) eRow [])] (k + 1)) := by
    refine seqm_go (w := .lst ((OL.take r.toNat).map fun x => W.str x)) (sl_go (w := .lst (OL.map fun x => W.str x)) (lst_go (cons_go rfl (cons_go rfl (cons_go rfl (cons_go rfl nil_go)))) rfl) rfl (os_go (call_go (cons_go rfl (cons_go (bin_go rfl rfl rfl) nil_go)) er)) ?_) rfl
    show some (W.lst (cutW (OL.map fun x => W.str x) none (some r))) = _
    rw [rr, cut_take, <- rr]
  let Inv : List Str -> Me -> MH -> Prop := fun done me h => ∃ (rows : List (Str × Row)) (j N' : Nat) (b3 b11 b12 b13 b14 b15 b16 : Option W), M < N' /\ h = hp S N' [(M, dctO (fun x : Str => W.str x) eRow rows)] j /\ rows.map (·.1) = done /\ (∀ q ∈ rows, RowOk pk q.2) /\ me = mm b3 b11 b12 b13 b14 b15 b16
  have nd : (OL.take r.toNat).Nodup := (List.take_sublist _ OL).nodup OL_nd
  obtain ⟨me', h', e, rows, j, N', b3, b11, b12, b13, b14, b15, b16, lt, rfl, ek, ok, rfl⟩ := fi_nx (g := dr12g) (b := dr12b) (xs := OL.take r.toNat) (enc := fun x => W.str x) Inv src ⟨[], k + 1, M + 1, a3, a11, a12, a13, a14, a15, a16, Nat.lt_succ_self _, rfl, rfl, by simp, rfl⟩ (fun done x rest me h ex ⟨rows, j, N, b3, b11, b12, b13, b14, b15, b16, lt, e1, e2, ok, e3⟩ => by
    subst e1 e3
    have hx : x ∉ done := by
      rw [ex] at nd
      intro hm
      rw [List.nodup_append] at nd
      exact nd.2.2 x hm x List.mem_cons_self rfl
    have rl : rows.length <= 4 := by
      have h1 := congrArg List.length ex
      have h2 := congrArg List.length e2
      rw [List.length_append, List.length_take] at h1
      rw [List.length_map] at h2
      have : OL.length = 4 := rfl
      omega
    let bs := [(M, dctO (fun x : Str => W.str x) eRow rows)]
    have G := (FF N rows lt).base
    obtain ⟨q0, k1, eq0, o1, o2, o3⟩ := two_eq P G b0 j
    have s1 : dr12b1 (mm (some (.str x)) b11 b12 b13 b14 b15 b16) (hp S N bs j) = .nx (mm (some (.str x)) b11 b12 b13 (some (eItem q0.1)) (some (eItem q0.2)) b16) (hp S N bs k1) := asg_go (call_go (cons_go rfl (cons_go rfl nil_go)) eq0) rfl
    have A : ∃ (q : Item × Item) (k2 : Nat), PairOk pk q /\ dr12b2 (mm (some (.str x)) b11 b12 b13 (some (eItem q0.1)) (some (eItem q0.2)) b16) (hp S N bs k1) = .nx (mm (some (.str x)) b11 b12 b13 (some (eItem q.1)) (some (eItem q.2)) b16) (hp S N bs k2) := by
      have t1 : (mBin (wCmpB true) (mV 4) (mLst mNil)) (mm (some (.str x)) b11 b12 b13 (some (eItem q0.1)) (some (eItem q0.2)) b16) (hp S N bs k1) = .ok (.bl (!decide (ps = []))) (hp S N bs k1) := bin_go rfl (lst_go nil_go rfl) (cmp_ne (enc_lst encPair) (by decide) ps [] _)
      by_cases hp0 : ps = []
      · rw [decide_eq_true hp0] at t1
        exact ⟨q0, k1, ⟨o1, o2, o3⟩, if_f (and_f t1) rfl⟩
      · rw [decide_eq_false hp0] at t1
        obtain ⟨v, ev, v0, v1⟩ := next_eq G b0 k1 4 (by decide)
        have t2 : dr12b2t (mm (some (.str x)) b11 b12 b13 (some (eItem q0.1)) (some (eItem q0.2)) b16) (hp S N bs k1) = .ok (.bl (decide (0 < v))) (hp S N bs (k1 + 1)) := and_t t1 (bin_go (call_go (cons_go rfl (cons_go rfl nil_go)) ev) rfl rfl)
        by_cases hv : 0 < v
        · rw [decide_eq_true hv] at t2
          obtain ⟨q, hq, k2, ep⟩ := pick_eq (f := ePair) encPair.nr G b0 (k1 + 1) hp0
          exact ⟨q, k2, hps q hq, if_t t2 (seq_go (asg_go (call_go (cons_go rfl (cons_go rfl nil_go)) ep) rfl) rfl)⟩
        · rw [decide_eq_false hv] at t2
          exact ⟨q0, k1 + 1, ⟨o1, o2, o3⟩, if_f t2 rfl⟩
    obtain ⟨q1, k2, oq1, s2⟩ := A
    obtain ⟨v, ev, v0, v1⟩ := next_eq G b0 k2 2 (by decide)
    have t3 : dr12b3t (mm (some (.str x)) b11 b12 b13 (some (eItem q1.1)) (some (eItem q1.2)) b16) (hp S N bs k2) = .ok (.bl (decide (v = 0))) (hp S N bs (k2 + 1)) := bin_go (call_go (cons_go rfl (cons_go rfl nil_go)) ev) rfl (cmp_eq enc_int (by decide) _ _ _)
    have B : ∃ (q : Item × Item), PairOk pk q /\ dr12b3 (mm (some (.str x)) b11 b12 b13 (some (eItem q1.1)) (some (eItem q1.2)) b16) (hp S N bs k2) = .nx (mm (some (.str x)) b11 b12 b13 (some (eItem q.1)) (some (eItem q.2)) b16) (hp S N bs (k2 + 1)) := by
      by_cases hv : v = 0
      · rw [decide_eq_true hv] at t3
        exact ⟨(q1.2, q1.1), ⟨oq1.2.1, oq1.1, Ne.symm oq1.2.2⟩, if_t t3 (seq_go (par2_go (cons_go rfl (cons_go rfl nil_go))) rfl)⟩
      · rw [decide_eq_false hv] at t3
        exact ⟨q1, oq1, if_f t3 rfl⟩
    obtain ⟨q, oq, s3⟩ := B
    have s4 : dr12b4 (mm (some (.str x)) b11 b12 b13 (some (eItem q.1)) (some (eItem q.2)) b16) (hp S N bs (k2 + 1)) = .nx (mm (some (.str x)) b11 (some (.ref N)) b13 (some (eItem q.1)) (some (eItem q.2)) b16) (hp S (N + 1) ((N, .lst []) :: bs) (k2 + 1)) := set_go (box_go nil_go rfl)
    obtain ⟨d1, d2, k3, N3, c11, c13, c16, lt3, s5, od1, od2, n1, n2⟩ := ph_sides F b0 m (N := N) hM lt (nrO rows) P oq (k2 + 1) (some (.str x)) (some (.lst (ps.map ePair))) a5 a6 (some (.ref M)) a8 a9 a10 b11 b13 b16
    have lt4 : M < N3 := by omega
    have s6 : dr12b6 (mm (some (.str x)) c11 (some (.ref N)) c13 (some (eItem q.1)) (some (eItem q.2)) c16) (hp S N3 [(N, .lst ([d1, d2].map eSide)), (M, dctO (fun x : Str => W.str x) eRow rows)] k3) = .nx (mm (some (.str x)) c11 (some (.lst ([d1, d2].map eSide))) c13 (some (eItem q.1)) (some (eItem q.2)) c16) (hp S N3 bs k3) := by
      refine (frzl_go F (ws := [d1, d2].map eSide) (m := N) rfl look_hd (by omega)).trans ?_
      rw [delN_hd, delN_tl (show N ≠ M by omega)]
      rfl
    obtain ⟨u, eu, u0, u1⟩ := next_eq (FF N3 rows lt4).base b0 k3 3 (by decide)
    have ro : RowOk pk (d1, d2, 1 + u) := by
      obtain ⟨c1, h1, _⟩ := id od1
      obtain ⟨c2, h2, _⟩ := id od2
      exact ⟨hnm _ (List.mem_map_of_mem (f := (·.1)) (look_mem h1)), hnm _ (List.mem_map_of_mem (f := (·.1)) (look_mem h2)), by
        show d1.1 ≠ d2.1
        rw [n1, n2]
        exact oq.2.2, od1, od2, by show 1 <= 1 + u /\ 1 + u <= 9; omega⟩
    have s7 : dr12b7 (mm (some (.str x)) c11 (some (.lst ([d1, d2].map eSide))) c13 (some (eItem q.1)) (some (eItem q.2)) c16) (hp S N3 bs k3) = .nx (mm (some (.str x)) c11 (some (.lst ([d1, d2].map eSide))) c13 (some (eItem q.1)) (some (eItem q.2)) c16) (hp S N3 [(M, dctO (fun x : Str => W.str x) eRow (dput x (d1, d2, 1 + u) rows))] (k3 + 1)) := by
      refine (putd_go kenc_str (f := eRow) (l := rows) (a := x) (v := (d1, d2, 1 + u)) (tup_go (cons_go (w := eSide d1) (bin_go rfl rfl rfl) (cons_go (w := eSide d2) (bin_go rfl rfl rfl) (cons_go (bin_go rfl (call_go (cons_go rfl (cons_go rfl nil_go)) eu) rfl) nil_go))) rfl) rfl rfl look_hd (by omega)).trans ?_
      rw [setN_hd]
    refine ⟨_, rfl, _, _, seq_go s1 (seq_go s2 (seq_go s3 (seq_go s4 (seq_go s5 (seq_go s6 (seq_go s7 rfl)))))), rows ++ [(x, (d1, d2, 1 + u))], k3 + 1, N3, _, _, _, _, _, _, _, lt4, ?_, ?_, ?_, rfl⟩
    · rw [dput_new (by rw [<- e2] at hx; exact hx)]
    · rw [List.map_append, e2]
      rfl
    · intro z hz
      rcases List.mem_append.mp hz with y | y
      · exact ok z y
      · rw [List.mem_singleton.mp y]; exact ro)
  have ol : OL.length = 4 := rfl
  have rl := congrArg List.length ek
  rw [List.length_map, List.length_take] at rl
  exact ⟨rows, j, N', _, lt, e, ok, by rw [ek]; exact nd, fun x hx => by rw [ek] at hx; exact OL_NM x (List.mem_of_mem_take hx), by omega, _, _, _, _, _, _, _, rfl⟩
theorem drawn_eq3 (F : Fam n ns by_ S S) (b0 : 0 <= by_) {m : Int} (m0 : 0 <= m) (k : Nat) : ∃ (d : Sh) (k' : Nat), m__law_drawn [.ref n, .int m] (S k) = .ok d.dw (S k') /\ Dr d /\ d.rows.length <= 4 /\ d.cl.length <= 3 := by
  let N := (S 0).nx
  obtain ⟨pk, k1, x3, e2, P, hnm⟩ := ph_pk F b0 m k
  obtain ⟨ws, k2, y3, y10, y11, e5, wo, wl⟩ := ph_w F b0 m (N := N + 1) (Nat.le_succ _) P k1 x3 none none none none none none none none none none none
  obtain ⟨ps, k3, e7, hps, pl⟩ := ph_pairs F b0 m (N := N + 2) (by omega) P k2 y3 none none none none (some (dctW eItem eT ws)) (some (.lst ((pk.map (·.1)).map fun x => W.str x))) y10 y11 none none none none none
  obtain ⟨qs, k4, z6, z11, e9, hqs, q1, q2⟩ := ph_asked F b0 m (N := N + 2) (by omega) P k3 y3 (some (.lst (ps.map ePair))) none none (some (dctW eItem eT ws)) y10 y11 none none none none none
  obtain ⟨rows, k5, N5, me', lt5, e12, ro, rnd, rnm, rl, w3, w11, w12, w13, w14, w15, w16, rfl⟩ := ph_rows F b0 m0 (M := N + 3) (by omega) P hnm hps k4 y3 (some (.lst (qs.map eT))) z6 (some (dctW eItem eT ws)) (some (.lst ((pk.map (·.1)).map fun x => W.str x))) y10 z11 none none none none none
  have F5 : Fam n ns by_ S (hp S N5 []) := hp_fam F (Bx.nil (by omega))
  let d : Sh := ⟨pk, ws, ps, qs, rows⟩
  have wlen : ws.length <= 1000 := by omega
  have hd : Dr d := ⟨P.len2, P.len5, P.nd, hnm, P.cnt, wlen, wo.nd, wo.ok, Nat.le_trans pl (by decide), hps, q1, Nat.le_trans q2 (by decide), fun q hq => ⟨(hqs q hq).1, sub_filter (hqs q hq).2 P.nd⟩, Nat.le_trans rl (by decide), rnd, rnm, ro⟩
  have nrd : noRef d.dw = true := by
    have a1 : noRef d.most = true := nr_dct (e := fun x : Str => W.str x) (f := fun i : Int => W.int i) (fun _ => rfl) (fun _ => rfl) d.pk
    have a2 : noRef d.wantsW = true := nr_dct encItem.nr encT.nr d.wants
    have a3 : noRef (.lst (d.cl.map ePair)) = true := noRef_lst encPair _
    have a4 : noRef (.lst (d.asked.map eT)) = true := noRef_lst encT _
    have a5 : noRef d.rowsW = true := nr_dct (e := fun x : Str => W.str x) (f := eRow) (fun _ => rfl) (fun r => by
      show (noRef (eSide r.1) && (noRef (eSide r.2.1) && true)) = true
      rw [nr_side, nr_side]; rfl) d.rows
    show (noRef d.most && (noRef d.wantsW && (noRef (.lst (d.cl.map ePair)) && (noRef (.lst (d.asked.map eT)) && (noRef d.rowsW && true))))) = true
    rw [a1, a2, a3, a4, a5]; rfl
  have s1 : dr1 (me17 n m none none none none none none none none none none none none none none none) (S k) = .nx (me17 n m (some (.ref N)) none none none none none none none none none none none none none none) (hp S (N + 1) [(N, .dct [] [])] k) := by
    rw [hp0 F k]
    exact set_go rfl
  have s3 : dr3 (me17 n m (some (.ref N)) x3 none none none none none none none none none none none none none) (hp S (N + 1) [(N, dctO (fun x : Str => W.str x) (fun i : Int => W.int i) pk)] k1) = .nx (me17 n m (some (mostW pk)) x3 none none none none none none none none none none none none none) (hp S (N + 1) [] k1) := by
    refine (frzk_go F (m := N) rfl look_hd (Nat.le_refl _)).trans ?_
    rw [delN_hd]
    rfl
  have s4 : dr4 (me17 n m (some (mostW pk)) x3 none none none none none none none none none none none none none) (hp S (N + 1) [] k1) = .nx (me17 n m (some (mostW pk)) x3 none none none none (some (.ref (N + 1))) (some (.lst ((pk.map (·.1)).map fun x => W.str x))) none none none none none none none) (hp S (N + 2) [(N + 1, .dct [] [])] k1) :=
    par2_go (cons_go rfl (cons_go (cb_go (cons_go rfl nil_go) rfl) nil_go))
  have s6 : dr6 (me17 n m (some (mostW pk)) y3 none none none none (some (.ref (N + 1))) (some (.lst ((pk.map (·.1)).map fun x => W.str x))) y10 y11 none none none none none) (hp S (N + 2) [(N + 1, dctO eItem eT ws)] k2) = .nx (me17 n m (some (mostW pk)) y3 none none none none (some (dctW eItem eT ws)) (some (.lst ((pk.map (·.1)).map fun x => W.str x))) y10 y11 none none none none none) (hp S (N + 2) [] k2) := by
    refine (frzk_go F (m := N + 1) rfl look_hd (by omega)).trans ?_
    rw [delN_hd]
    rfl
  have s8 : dr8 (me17 n m (some (mostW pk)) y3 (some (.lst (ps.map ePair))) none none none (some (dctW eItem eT ws)) (some (.lst ((pk.map (·.1)).map fun x => W.str x))) y10 y11 none none none none none) (hp S (N + 2) [] k3) = .nx (me17 n m (some (mostW pk)) y3 (some (.lst (ps.map ePair))) (some (.ref (N + 2))) none none (some (dctW eItem eT ws)) (some (.lst ((pk.map (·.1)).map fun x => W.str x))) y10 y11 none none none none none) (hp S (N + 3) [(N + 2, .lst [])] k3) := set_go (box_go nil_go rfl)
  have s10 : dr10 (me17 n m (some (mostW pk)) y3 (some (.lst (ps.map ePair))) (some (.ref (N + 2))) z6 none (some (dctW eItem eT ws)) (some (.lst ((pk.map (·.1)).map fun x => W.str x))) y10 z11 none none none none none) (hp S (N + 3) [(N + 2, .lst (qs.map eT))] k4) = .nx (me17 n m (some (mostW pk)) y3 (some (.lst (ps.map ePair))) (some (.lst (qs.map eT))) z6 none (some (dctW eItem eT ws)) (some (.lst ((pk.map (·.1)).map fun x => W.str x))) y10 z11 none none none none none) (hp S (N + 3) [] k4) := by
    refine (frzl_go F (m := N + 2) rfl look_hd (by omega)).trans ?_
    rw [delN_hd]
    rfl
  have s11 : dr11 (me17 n m (some (mostW pk)) y3 (some (.lst (ps.map ePair))) (some (.lst (qs.map eT))) z6 none (some (dctW eItem eT ws)) (some (.lst ((pk.map (·.1)).map fun x => W.str x))) y10 z11 none none none none none) (hp S (N + 3) [] k4) = .nx (me17 n m (some (mostW pk)) y3 (some (.lst (ps.map ePair))) (some (.lst (qs.map eT))) z6 (some (.ref (N + 3))) (some (dctW eItem eT ws)) (some (.lst ((pk.map (·.1)).map fun x => W.str x))) y10 z11 none none none none none) (hp S (N + 4) [(N + 3, .dct [] [])] k4) := set_go rfl
  have s13 : dr13 (me17 n m (some (mostW pk)) w3 (some (.lst (ps.map ePair))) (some (.lst (qs.map eT))) z6 (some (.ref (N + 3))) (some (dctW eItem eT ws)) (some (.lst ((pk.map (·.1)).map fun x => W.str x))) y10 w11 w12 w13 w14 w15 w16) (hp S N5 [(N + 3, dctO (fun x : Str => W.str x) eRow rows)] k5) = .nx (me17 n m (some (mostW pk)) w3 (some (.lst (ps.map ePair))) (some (.lst (qs.map eT))) z6 (some d.rowsW) (some (dctW eItem eT ws)) (some (.lst ((pk.map (·.1)).map fun x => W.str x))) y10 w11 w12 w13 w14 w15 w16) (hp S N5 [] k5) := by
    refine (frzk_go F (m := N + 3) rfl look_hd (by omega)).trans ?_
    rw [delN_hd]
    rfl
  have s14 : dr14 (me17 n m (some (mostW pk)) w3 (some (.lst (ps.map ePair))) (some (.lst (qs.map eT))) z6 (some d.rowsW) (some (dctW eItem eT ws)) (some (.lst ((pk.map (·.1)).map fun x => W.str x))) y10 w11 w12 w13 w14 w15 w16) (hp S N5 [] k5) = .rt d.dw (hp S N5 [] k5) := ret_go (tup_go (cons_go rfl (cons_go rfl (cons_go rfl (cons_go rfl (cons_go rfl nil_go))))) rfl)
  exact ⟨d, k5, ffn_rt F5 rfl nrd (seq_go s1 (seq_go e2 (seq_go s3 (seq_go s4 (seq_go e5 (seq_go s6 (seq_go e7 (seq_go s8 (seq_go e9 (seq_go s10 (seq_go s11 (seq_go e12 (seq_go s13 (seq_rt s14)))))))))))))) (F.ok _), hd, rl, pl⟩
end
section
variable {h : MH}
theorem law_shelf_eq (ok : h.Ok) {d : Sh} (o : Dr d) : m__law_shelf [d.dw] h = .ok d.shelf.w h := by
  have rl := o.rl
  have nrB : ∀ rows : List (Str × Row), noRefO (dctO (fun x : Str => W.str x) eBound rows) = true := fun rows => nrO_dct (fun _ => rfl) nr_bound rows
  have OK : ∀ rows : List (Str × Row), (h.new (dctO (fun x : Str => W.str x) eBound rows)).Ok := fun rows => ok.new (nrB rows)
  let Inv : List (Str × Row) -> Me -> MH -> Prop := fun done me h' => h' = h.new (dctO (fun x : Str => W.str x) eBound done) /\ ∃ b2 b3 b4 b5, me = [some d.dw, some (.ref h.nx), b2, b3, b4, b5]
  have src : ls2s [some d.dw, some (.ref h.nx), none, none, none, none] (h.new (dctO (fun x : Str => W.str x) eBound [])) = .ok (d.rows.map fun q => W.str q.1) (h.new (dctO (fun x : Str => W.str x) eBound [])) := by
    refine (seqm_go (w := d.rowsW) (ws := (d.rows.map Prod.fst).map fun x => W.str x) (bin_go rfl rfl rfl) rfl).trans ?_
    rw [List.map_map]
    rfl
  obtain ⟨me', h', e, rfl, b2, b3, b4, b5, rfl⟩ := fi_nx (g := ls2g) (b := ls2b) (enc := fun q : Str × Row => W.str q.1) Inv src ⟨rfl, none, none, none, none, rfl⟩ (fun done q rest me h2 ex i => by
    obtain ⟨rfl, b2, b3, b4, b5, rfl⟩ := i
    have hq : q ∈ d.rows := by rw [ex]; simp
    have hl : look q.1 d.rows = some q.2 := look_of_mem o.rnd hq
    have ro := o.ro q hq
    have nq : q.1 ∉ done.map Prod.fst := by
      have := o.rnd
      rw [ex, List.map_append, List.map_cons, List.nodup_append] at this
      exact fun hm => this.2.2 _ hm _ List.mem_cons_self rfl
    have dl : done.length <= 6 := by
      have := congrArg List.length ex
      rw [List.length_append] at this
      omega
    let h3 := h.new (dctO (fun x : Str => W.str x) eBound done)
    let me3 : Me := [some d.dw, some (.ref h.nx), some (.str q.1), some (eSide q.2.1), some (eSide q.2.2.1), some (.int q.2.2.2)]
    have s1 : ls2b1 [some d.dw, some (.ref h.nx), some (.str q.1), b3, b4, b5] h3 = .nx me3 h3 := asg_go (w := eRow q.2) (bin_go (x := d.rowsW) (bin_go rfl rfl rfl) rfl (ix_dct kenc_str _ hl)) rfl
    have s2 : ls2b2 me3 h3 = .nx me3 (h.new (dctO (fun x : Str => W.str x) eBound (done ++ [q]))) := by
      refine (put_go (bound_make (OK done) ro (cons_go (bin_go rfl rfl rfl) (cons_go (bin_go rfl rfl rfl) (cons_go (bin_go rfl rfl rfl) (cons_go (bin_go rfl rfl rfl) nil_go)))) (cons_go rfl nil_go)) rfl rfl get_new (fitPut_map kenc_str q.1 (done.map Prod.fst) (by rw [List.length_map]; omega))).trans ?_
      rw [set_new, dputK_map kenc_str q.1 q.2 done, dputV_map (f := eBound) kenc_str q.1 q.2 done, dput_new nq]
    exact ⟨_, rfl, _, _, seq_go s1 (seq_go s2 rfl), rfl, _, _, _, _, rfl⟩)
  let hU : MH := ⟨h.nx + 1, h.l⟩
  have okU : hU.Ok := by
    have := (OK []).del (n := h.nx)
    rwa [del_new ok] at this
  have s3 : ls3 [some d.dw, some (.ref h.nx), b2, b3, b4, b5] (h.new (dctO (fun x : Str => W.str x) eBound d.rows)) = .nx [some d.dw, some d.linesW, b2, b3, b4, b5] hU := by
    refine (frzd_go rfl get_new).trans ?_
    rw [del_new ok]
    rfl
  have s4 : ls4 [some d.dw, some d.linesW, b2, b3, b4, b5] hU = .rt d.shelf.w hU := ret_go (shelf_make okU o (cons_go (bin_go rfl rfl rfl) (cons_go (bin_go rfl rfl rfl) (cons_go (bin_go rfl rfl rfl) (cons_go (bin_go rfl rfl rfl) (cons_go rfl nil_go))))))
  exact fn_rt ok rfl (show h.Over hU from ok.lt) (nr_sh d.shelf) (seq_go (set_go rfl) (seq_go e (seq_go s3 (seq_rt s4))))
end
theorem enc_bl : Enc 1 (fun b : Bool => W.bl b) := ⟨fun n a b hn => by
  obtain ⟨m, rfl⟩ : ∃ m, n = m + 1 := ⟨n - 1, by omega⟩
  cases a <;> cases b <;> rfl, fun a h => ⟨rfl, fun n e => nomatch e⟩, fun _ => rfl⟩
theorem ne_bl (a : Bool) (h : MH) : wCmpB true (.bl a) (.bl a) h = some (.bl false) := by
  rw [cmp_ne enc_bl (by decide)]
  simp
theorem ne_int (a : Int) (h : MH) : wCmpB true (.int a) (.int a) h = some (.bl false) := by
  rw [cmp_ne enc_int (by decide)]
  simp
theorem encSide : Enc 3 eSide := enc_pair enc_str (enc_tup enc_int)
theorem dencSide : DEnc eSide := denc_pair denc_str (denc_tup denc_int)
theorem dencItem : DEnc eItem := denc_pair denc_str denc_int
theorem dencT : DEnc eT := denc_tup denc_str
theorem encSides : Enc 4 (fun p : Side × Side => W.tup [eSide p.1, eSide p.2]) := enc_pair encSide encSide
theorem dencSides : DEnc (fun p : Side × Side => W.tup [eSide p.1, eSide p.2]) := denc_pair dencSide dencSide
section
variable {h : MH}
theorem bound_first_eq (ok : h.Ok) (r : Row) : m_Bound_first [eBound r] h = .ok (.str r.1.1) h := fn_rt ok rfl ok.over rfl (seq_rt (ret_go (bin_go (bin_go rfl rfl rfl) rfl rfl)))
theorem bound_second_eq (ok : h.Ok) (r : Row) : m_Bound_second [eBound r] h = .ok (.str r.2.1.1) h := fn_rt ok rfl ok.over rfl (seq_rt (ret_go (bin_go (bin_go rfl rfl rfl) rfl rfl)))
theorem bound_versions_eq (ok : h.Ok) (r : Row) : m_Bound_versions [eBound r] h = .ok (.tup (r.1.2.map fun i => W.int i)) h := fn_rt ok rfl ok.over (noRef_tup enc_int _) (seq_rt (ret_go (bin_go (bin_go rfl rfl rfl) rfl rfl)))
theorem bound_others_eq (ok : h.Ok) (r : Row) : m_Bound_others [eBound r] h = .ok (.tup (r.2.1.2.map fun i => W.int i)) h := fn_rt ok rfl ok.over (noRef_tup enc_int _) (seq_rt (ret_go (bin_go (bin_go rfl rfl rfl) rfl rfl)))
theorem bound_cost_eq (ok : h.Ok) (r : Row) : m_Bound_cost [eBound r] h = .ok (.int r.2.2) h := fn_rt ok rfl ok.over rfl (seq_rt (ret_go rfl))
theorem bound_eq_eq (ok : h.Ok) (a b : Row) : m_Bound___eq__ [eBound a, eBound b] h = .ok (.bl (decide (a = b))) h := by
  refine fn_rt ok rfl ok.over rfl (seq_rt (ret_go ?_))
  have e1 := and_go (a := mCallB (wIsi nC subC) (mCons (mV 1) (mCons (mC (.cl 0)) mNil))) (b := mAnd (mBin (wCmpB false) (mFld [0] "sides" (mV 0)) (mFld [0] "sides" (mV 1))) (mBin (wCmpB false) (mFld [0] "charge" (mV 0)) (mFld [0] "charge" (mV 1)))) (me := [some (eBound a), some (eBound b)]) (h := h) (h1 := h) (k := true) (cb_go (cons_go rfl (cons_go rfl nil_go)) rfl) fun _ => and_go (bin_go rfl rfl (cmp_eq encSides (by decide) (a.1, a.2.1) (b.1, b.2.1) h)) fun _ => bin_go rfl rfl (cmp_eq enc_int (by decide) a.2.2 b.2.2 h)
  refine e1.trans ?_
  obtain ⟨a1, a2, a3⟩ := a
  obtain ⟨b1, b2, b3⟩ := b
  by_cases h1 : a1 = b1 <;> by_cases h2 : a2 = b2 <;> by_cases h3 : a3 = b3 <;> simp [h1, h2, h3]
abbrev turnR (r : Row) : Row := (r.2.1, r.1, r.2.2)
theorem RowOk.turn {pk : List Item} {r : Row} (o : RowOk pk r) : RowOk pk (turnR r) := ⟨o.n2, o.n1, fun z => o.ne z.symm, o.v2, o.v1, o.ch⟩
theorem bound_neg_eq (ok : h.Ok) {pk : List Item} {r : Row} (o : RowOk pk r) : m_Bound___neg__ [eBound r] h = .ok (eBound (turnR r)) h :=
  fn_rt ok rfl ok.over (nr_bound _) (seq_rt (ret_go (bound_make ok o.turn (cons_go (bin_go (bin_go rfl rfl rfl) rfl rfl) (cons_go (bin_go (bin_go rfl rfl rfl) rfl rfl) (cons_go (bin_go (bin_go rfl rfl rfl) rfl rfl) (cons_go (bin_go (bin_go rfl rfl rfl) rfl rfl) nil_go)))) (cons_go rfl nil_go))))
end
section
variable {h : MH}
theorem nr_w (s : Sh) : noRef s.w = true := nr_sh s
theorem shelf_packages_eq (ok : h.Ok) {s : Sh} (o : s.Ok) : m_Shelf_packages [s.w] h = .ok s.most h := by
  refine fn_rt ok rfl ok.over (nr_dct (e := fun x : Str => W.str x) (f := fun i : Int => W.int i) (fun _ => rfl) (fun _ => rfl) s.pk) (seq_rt (ret_go ?_))
  refine (dc_go kenc_str (f := fun i : Int => W.int i) (xs := s.pk) (enc := fun q : Item => W.tup [.str q.1, .int q.2]) (p := fun _ => true) (kf := fun q : Item => q.1) (vf := fun q : Item => q.2) ((items_go rfl).trans (congrArg (fun z => R.ok z _) (zip_items (fun x : Str => W.str x) (fun i : Int => W.int i) s.pk))) (by have := o.len; omega) fun x _ => ⟨_, rfl, rfl, fun _ => ⟨rfl, rfl⟩⟩).trans ?_
  rw [List.filter_eq_self.mpr (fun _ _ => rfl), fold_new (by simpa using o.nd), List.nil_append]
  show R.ok (dctW (fun x : Str => W.str x) (fun i : Int => W.int i) (s.pk.map fun q => q)) _ = _
  rw [List.map_id']
  rfl
theorem shelf_requests_eq (ok : h.Ok) (s : Sh) : m_Shelf_requests [s.w] h = .ok (.lst (s.asked.map eT)) h := fn_rt ok rfl ok.over (noRef_lst encT _) (seq_rt (ret_go (cb_go (cons_go rfl nil_go) rfl)))
theorem shelf_names_eq (ok : h.Ok) (s : Sh) : m_Shelf_names [s.w] h = .ok (.lst ((s.rows.map (·.1)).map fun x => W.str x)) h := fn_rt ok rfl ok.over (noRef_lst enc_str _) (seq_rt (ret_go (cb_go (cons_go rfl nil_go) rfl)))
theorem shelf_len_eq (ok : h.Ok) (s : Sh) : m_Shelf___len__ [s.w] h = .ok (.int (s.rows.length : Nat)) h := by
  refine fn_rt ok rfl ok.over rfl (seq_rt (ret_go (cb_go (cons_go (w := s.linesW) rfl nil_go) ?_)))
  show some (W.int (((s.rows.map (·.1)).map fun x => W.str x).length : Nat)) = _
  rw [List.length_map, List.length_map]
theorem shelf_in_eq (ok : h.Ok) (s : Sh) (x : Str) : m_Shelf___contains__ [s.w, .str x] h = .ok (.bl (decide (x ∈ s.rows.map (·.1)))) h := by
  refine fn_rt ok rfl ok.over rfl (seq_rt (ret_go ?_))
  refine (and_go (k := true) (cb_go (cons_go rfl (cons_go rfl nil_go)) rfl) fun _ => bin_go rfl rfl (mem_dct kenc_str x (s.rows.map (·.1)) _ h)).trans ?_
  rw [Bool.true_and]
theorem shelf_get_eq (ok : h.Ok) {s : Sh} {x : Str} {r : Row} (hr : look x s.rows = some r) : m_Shelf___getitem__ [s.w, .str x] h = .ok (eBound r) h := by
  have hm : x ∈ s.rows.map (·.1) := List.mem_map.mpr ⟨_, look_mem hr, rfl⟩
  refine fn_rt ok rfl ok.over (nr_bound r) (guard_go (or_go (k := false) (l := false) (not_go (k := true) (cb_go (cons_go rfl (cons_go rfl nil_go)) rfl)) fun _ => bin_go rfl rfl ?_) (seq_rt (ret_go (bin_go (x := s.linesW) rfl rfl (ix_dct kenc_str (f := eBound) h hr)))))
  show wIn true (W.str x) (.dct ((s.rows.map (·.1)).map fun x => W.str x) ((s.rows.map (·.2)).map eBound)) h = _
  rw [nmem_dct kenc_str x (s.rows.map (·.1)) ((s.rows.map (·.2)).map eBound) h, decide_eq_true hm]
  rfl
theorem shelf_needs_eq (ok : h.Ok) {s : Sh} {it : Item} (o : ItemOk s.pk it) : m_Shelf_needs [s.w, eItem it] h = .ok (eT (s.need it)) h :=
  fn_rt ok rfl ok.over (encT.nr _) (guard_go (not_go (k := true) (call_go (cons_go rfl (cons_go rfl nil_go)) (is_item_eq ok s.pk o))) (seq_rt (ret_go (call_go (cons_go rfl (cons_go rfl nil_go)) (needed_eq ok s it)))))
def eLnB (q : Str × Row) : W := .tup [.str q.1, eBound q.2]
def partsW (s : Sh) : W := .lst [.lst (s.pk.map eItem), s.wantsW, .lst (s.cl.map ePair), .lst (s.asked.map eT), .lst (s.rows.map eLnB)]
theorem all_parts_eq (ok : h.Ok) (s : Sh) : m_Shelf_all_parts [s.w] h = .ok (partsW s) h := by
  have nl : noRef (.lst (s.rows.map eLnB)) = true := by
    show noRefs (s.rows.map eLnB) = true
    exact noRefs_all (f := eLnB) (fun q => by
      show (noRef (.str q.1) && (noRef (eBound q.2) && true)) = true
      rw [nr_bound]; rfl) s.rows
  have nr : noRef (partsW s) = true := by
    show (noRef (.lst (s.pk.map eItem)) && (noRef s.wantsW && (noRef (.lst (s.cl.map ePair)) && (noRef (.lst (s.asked.map eT)) && (noRef (.lst (s.rows.map eLnB)) && true))))) = true
    rw [noRef_lst encItem, noRef_lst encPair, noRef_lst encT, nl, show noRef s.wantsW = true from nr_dct encItem.nr encT.nr s.wants]
    rfl
  refine fn_rt ok rfl ok.over nr (seq_rt (ret_go (lst_go (cons_go (h1 := h) ?_ (cons_go rfl (cons_go rfl (cons_go rfl (cons_go (h1 := h) ?_ nil_go))))) rfl)))
  · exact (lstIt_go (ks := s.names.map fun x => W.str x) (vs := s.counts.map fun i => W.int i) rfl).trans (congrArg (fun z => R.ok (W.lst z) h) (zip_items (fun x : Str => W.str x) (fun i : Int => W.int i) s.pk))
  · exact (lstIt_go (ks := (s.rows.map (·.1)).map fun x => W.str x) (vs := (s.rows.map (·.2)).map eBound) rfl).trans (congrArg (fun z => R.ok (W.lst z) h) (zip_items (fun x : Str => W.str x) eBound s.rows))
theorem ins_bound (a b : Row) : insEq mq__eq___Bound (eBound a) (eBound b) = some (decide (a = b)) := by
  have na : noRefs [.tup [eSide a.1, eSide a.2.1], .int a.2.2] = true := nr_bound a
  have nb : noRefs [.tup [eSide b.1, eSide b.2.1], .int b.2.2] = true := nr_bound b
  show (match Nat.beq 0 0 && (noRefs [.tup [eSide a.1, eSide a.2.1], .int a.2.2] && noRefs [.tup [eSide b.1, eSide b.2.1], .int b.2.2]) with
    | true => (match m_Bound___eq__ [eBound a, eBound b] h0 with
        | .ok (.bl true) _ => some true
        | .ok (.bl false) _ => (match wDiffs [.tup [eSide a.1, eSide a.2.1], .int a.2.2] [.tup [eSide b.1, eSide b.2.1], .int b.2.2] with
          | true => some false
          | false => none)
        | _ => none)
    | false => none) = _
  rw [na, nb, bound_eq_eq ok0]
  show (match (R.ok (W.bl (decide (a = b))) h0 : R W) with
        | .ok (.bl true) _ => some true
        | .ok (.bl false) _ => (match wDiffs [.tup [eSide a.1, eSide a.2.1], .int a.2.2] [.tup [eSide b.1, eSide b.2.1], .int b.2.2] with
          | true => some false
          | false => none)
        | _ => none) = _
  have wd : wDiffs [.tup [eSide a.1, eSide a.2.1], .int a.2.2] [.tup [eSide b.1, eSide b.2.1], .int b.2.2] = !decide (a = b) := by
    show (wDiff (.tup [eSide a.1, eSide a.2.1]) (.tup [eSide b.1, eSide b.2.1]) || (wDiff (.int a.2.2) (.int b.2.2) || false)) = _
    rw [show wDiff (.tup [eSide a.1, eSide a.2.1]) (.tup [eSide b.1, eSide b.2.1]) = _ from dencSides.df (a.1, a.2.1) (b.1, b.2.1), show wDiff (.int a.2.2) (.int b.2.2) = _ from denc_int.df a.2.2 b.2.2]
    obtain ⟨a1, a2, a3⟩ := a
    obtain ⟨b1, b2, b3⟩ := b
    by_cases h1 : a1 = b1 <;> by_cases h2 : a2 = b2 <;> by_cases h3 : a3 = b3 <;> simp [h1, h2, h3]
  rw [wd]
  by_cases z : a = b
  · rw [decide_eq_true z]
  · rw [decide_eq_false z]; rfl
theorem deq_line (n : Nat) (q r : Str × Row) : deqP mq__eq___Bound (n + 2) (eLnB q) (eLnB r) = some (decide (q = r)) := by
  unfold deqP
  have w : weq 30 (eLnB q) (eLnB r) = none := by
    show weqL (weq 29) [.str q.1, eBound q.2] [.str r.1, eBound r.2] = none
    unfold weqL
    rw [show weq 29 (.str q.1) (.str r.1) = _ from enc_str.eq 29 q.1 r.1 (by decide)]
    rfl
  rw [w]
  show deqL (deqP mq__eq___Bound (n + 1)) [.str q.1, eBound q.2] [.str r.1, eBound r.2] = _
  refine (deqL_cons (deq_enc enc_str (by decide) _ n q.1 r.1) fun _ => deqL_cons (b := true) (a := decide (q.2 = r.2)) ?_ fun _ => rfl).trans ?_
  · unfold deqP
    have w2 : weq 30 (eBound q.2) (eBound r.2) = none := rfl
    rw [w2]
    exact ins_bound q.2 r.2
  · obtain ⟨q1, q2⟩ := q
    obtain ⟨r1, r2⟩ := r
    by_cases h1 : q1 = r1 <;> by_cases h2 : q2 = r2 <;> simp [h1, h2]
theorem deqL_lines (n : Nat) : ∀ (l r : List (Str × Row)), l.length = r.length -> deqL (deqP mq__eq___Bound (n + 2)) (l.map eLnB) (r.map eLnB) = some (decide (l = r))
  | [], [], _ => by simp [deqL]
  | [], _ :: _, h => by cases h
  | _ :: _, [], h => by cases h
  | q :: l, r :: rs, h => by
    rw [List.map_cons, List.map_cons]
    refine (deqL_cons (deq_line n q r) fun _ => deqL_lines n l rs (Nat.succ.inj h)).trans ?_
    by_cases h1 : q = r <;> by_cases h2 : l = rs <;> simp [h1, h2]
theorem deq_lines (n : Nat) (l r : List (Str × Row)) : deqP mq__eq___Bound (n + 3) (.lst (l.map eLnB)) (.lst (r.map eLnB)) = some (decide (l = r)) := by
  cases l with
  | nil =>
    cases r with
    | nil => rfl
    | cons b r => rfl
  | cons a l =>
    cases r with
    | nil => rfl
    | cons b r =>
      unfold deqP
      have w : weq 30 (.lst ((a :: l).map eLnB)) (.lst ((b :: r).map eLnB)) = none := by
        show weqL (weq 29) (eLnB a :: l.map eLnB) (eLnB b :: r.map eLnB) = none
        unfold weqL
        have w1 : weq 29 (eLnB a) (eLnB b) = none := by
          show weqL (weq 28) [.str a.1, eBound a.2] [.str b.1, eBound b.2] = none
          unfold weqL
          rw [show weq 28 (.str a.1) (.str b.1) = _ from enc_str.eq 28 a.1 b.1 (by decide)]
          rfl
        rw [w1]
      rw [w]
      show (match Nat.beq ((a :: l).map eLnB).length ((b :: r).map eLnB).length with
        | false => some false
        | true => deqL (deqP mq__eq___Bound (n + 2)) ((a :: l).map eLnB) ((b :: r).map eLnB)) = _
      rw [List.length_map, List.length_map]
      by_cases z : (a :: l).length = (b :: r).length
      · rw [z, Nat.beq_refl]
        exact deqL_lines n _ _ z
      · rw [show Nat.beq (a :: l).length (b :: r).length = false by cases q : Nat.beq (a :: l).length (b :: r).length with | false => rfl | true => exact absurd (Nat.eq_of_beq_eq_true q) z]
        have : (a :: l) ≠ b :: r := fun y => z (congrArg List.length y)
        rw [decide_eq_false this]
def eqS (s t : Sh) : Bool := decide (s.pk = t.pk) && ((decide (s.wants.length = t.wants.length) && within t.wants s.wants) && (decide (s.cl = t.cl) && (decide (s.asked = t.asked) && (decide (s.rows = t.rows) && true))))
theorem deq_parts {s t : Sh} (nd : (t.wants.map (·.1)).Nodup) : deqP mq__eq___Bound 6 (partsW s) (partsW t) = some (eqS s t) := by
  unfold deqP
  have w : weq 30 (partsW s) (partsW t) = none := by
    show weqL (weq 29) (.lst (s.pk.map eItem) :: [s.wantsW, .lst (s.cl.map ePair), .lst (s.asked.map eT), .lst (s.rows.map eLnB)]) (.lst (t.pk.map eItem) :: [t.wantsW, .lst (t.cl.map ePair), .lst (t.asked.map eT), .lst (t.rows.map eLnB)]) = none
    unfold weqL
    rw [show weq 29 (.lst (s.pk.map eItem)) (.lst (t.pk.map eItem)) = _ from (enc_lst encItem).eq 29 s.pk t.pk (by decide)]
    rfl
  rw [w]
  show deqL (deqP mq__eq___Bound 5) [.lst (s.pk.map eItem), s.wantsW, .lst (s.cl.map ePair), .lst (s.asked.map eT), .lst (s.rows.map eLnB)] [.lst (t.pk.map eItem), t.wantsW, .lst (t.cl.map ePair), .lst (t.asked.map eT), .lst (t.rows.map eLnB)] = _
  exact deqL_cons (deq_enc (enc_lst encItem) (by decide) _ 4 s.pk t.pk) fun _ => deqL_cons (deq_dct kenc_item encT (by decide) dencItem dencT _ 4 nd) fun _ => deqL_cons (deq_enc (enc_lst encPair) (by decide) _ 4 s.cl t.cl) fun _ => deqL_cons (deq_enc (enc_lst encT) (by decide) _ 4 s.asked t.asked) fun _ => deqL_cons (deq_lines 2 s.rows t.rows) fun _ => rfl
theorem eqO_parts {s t : Sh} (nd : (t.wants.map (·.1)).Nodup) (h : MH) : wEqO mq__eq___Bound (partsW s) (partsW t) h = some (.bl (eqS s t)) := by
  unfold wEqO
  have w : wCmpB false (partsW s) (partsW t) h = none := by
    show wCmpD false (partsW s) (partsW t) h = none
    unfold wCmpD
    have w : weq 30 (partsW s) (partsW t) = none := by
      show weqL (weq 29) (.lst (s.pk.map eItem) :: [s.wantsW, .lst (s.cl.map ePair), .lst (s.asked.map eT), .lst (s.rows.map eLnB)]) (.lst (t.pk.map eItem) :: [t.wantsW, .lst (t.cl.map ePair), .lst (t.asked.map eT), .lst (t.rows.map eLnB)]) = none
      unfold weqL
      rw [show weq 29 (.lst (s.pk.map eItem)) (.lst (t.pk.map eItem)) = _ from (enc_lst encItem).eq 29 s.pk t.pk (by decide)]
      rfl
    rw [w]
    rfl
  show (match wCmpB false (partsW s) (partsW t) h with
    | some w => some w
    | none => match deqP mq__eq___Bound 6 (partsW s) (partsW t) with
      | some r => some (W.bl r)
      | none => none) = _
  rw [w, deq_parts nd]
theorem shelf_eq_eq (ok : h.Ok) {s t : Sh} (nd : (t.wants.map (·.1)).Nodup) : m_Shelf___eq__ [s.w, t.w] h = .ok (.bl (eqS s t)) h := by
  refine fn_rt ok rfl ok.over rfl (seq_rt (ret_go ?_))
  refine (and_go (k := true) (cb_go (cons_go rfl (cons_go rfl nil_go)) rfl) fun _ => bin_go (mt0_go (fn := ["most", "wants", "clashes", "asked", "lines"]) rfl rfl (all_parts_eq ok s)) (mt0_go (fn := ["most", "wants", "clashes", "asked", "lines"]) rfl rfl (all_parts_eq ok t)) (eqO_parts nd h)).trans ?_
  rw [Bool.true_and]
theorem pure_bound_eq (a b : Row) : pureW m_Bound___eq__ [eBound a, eBound b] = some (.bl (decide (a = b))) := pureW_go (by show (noRef (eBound a) && (noRef (eBound b) && true)) = true; rw [nr_bound, nr_bound]; rfl) (bound_eq_eq ok0 a b) rfl
theorem pure_neg {pk : List Item} {r : Row} (o : RowOk pk r) : pureW m_Bound___neg__ [eBound r] = some (eBound (turnR r)) := pureW_go (by show (noRef (eBound r) && true) = true; rw [nr_bound]; rfl) (bound_neg_eq ok0 o) (nr_bound _)
theorem pure_shelf_eq {s t : Sh} (nd : (t.wants.map (·.1)).Nodup) : pureW m_Shelf___eq__ [s.w, t.w] = some (.bl (eqS s t)) := pureW_go (by show (noRef s.w && (noRef t.w && true)) = true; rw [nr_w, nr_w]; rfl) (shelf_eq_eq ok0 nd) rfl
theorem pure_len (s : Sh) : pureW m_Shelf___len__ [s.w] = some (.int (s.rows.length : Nat)) := pureW_go (by show (noRef s.w && true) = true; rw [nr_w]; rfl) (shelf_len_eq ok0 s) rfl
theorem pure_in (s : Sh) (x : Str) : pureW m_Shelf___contains__ [s.w, .str x] = some (.bl (decide (x ∈ s.rows.map (·.1)))) := pureW_go (by show (noRef s.w && (noRef (.str x) && true)) = true; rw [nr_w]; rfl) (shelf_in_eq ok0 s x) rfl
theorem pure_get {s : Sh} {x : Str} {r : Row} (hr : look x s.rows = some r) : pureW m_Shelf___getitem__ [s.w, .str x] = some (eBound r) := pureW_go (by show (noRef s.w && (noRef (.str x) && true)) = true; rw [nr_w]; rfl) (shelf_get_eq ok0 hr) (nr_bound r)
end
theorem str_ext {a b : Str} (h : a.cps.toList = b.cps.toList) : a = b := by
  obtain ⟨⟨a⟩⟩ := a
  obtain ⟨⟨b⟩⟩ := b
  cases h
  rfl
theorem inj_item (a b : Item) (h : PySem.W.keyToks (toD (eItem a)) = PySem.W.keyToks (toD (eItem b))) : a = b := by
  obtain ⟨a1, a2⟩ := a
  obtain ⟨b1, b2⟩ := b
  simp only [eItem, toD, toDs, PySem.W.keyToks, PySem.W.keyToksAll, List.cons_append, List.nil_append, List.cons.injEq, Sum.inl.injEq, Sum.inr.injEq, true_and, and_true] at h
  rw [str_ext h.1, h.2]
theorem inj_pair (a b : Item × Item) (h : PySem.W.keyToks (toD (ePair a)) = PySem.W.keyToks (toD (ePair b))) : a = b := by
  obtain ⟨⟨a1, a2⟩, a3, a4⟩ := a
  obtain ⟨⟨b1, b2⟩, b3, b4⟩ := b
  simp only [ePair, eItem, toD, toDs, PySem.W.keyToks, PySem.W.keyToksAll, List.cons_append, List.nil_append, List.cons.injEq, Sum.inl.injEq, Sum.inr.injEq, true_and, and_true] at h
  obtain ⟨h1, h2, h3, h4⟩ := h
  rw [str_ext h1, h2, str_ext h3, h4]
theorem ord_swap (q : Item × Item) : ord (q.2, q.1) = ord q := by
  have e := (ord_is (q.2, q.1)).1
  rw [sortE_eq (e := eItem) inj_item (List.Perm.swap _ _ _), (ord_is q).1] at e
  simp only [List.cons.injEq, and_true] at e
  exact Prod.ext e.1.symm e.2.symm
theorem fold_nodup {α κ β : Type} [DecidableEq κ] {kf : α -> κ} {vf : α -> β} : ∀ {xs : List α} {acc : List (κ × β)}, (acc.map Prod.fst).Nodup -> ((xs.foldl (fun a x => dput (kf x) (vf x) a) acc).map Prod.fst).Nodup
  | [], _, h => h
  | x :: xs, acc, h => fold_nodup (xs := xs) (dput_nodup h)
theorem clOf_eq {l r : List (Item × Item)} (h : ∀ x, (∃ q ∈ l, ord q = x) ↔ ∃ q ∈ r, ord q = x) : clOf l = clOf r := by
  unfold clOf
  refine sortE_eq (e := ePair) inj_pair ((List.perm_ext_iff_of_nodup (fold_nodup (acc := []) (kf := ord) (vf := fun _ => true) List.nodup_nil) (fold_nodup (acc := []) (kf := ord) (vf := fun _ => true) List.nodup_nil)).mpr fun a => ?_)
  rw [fold_keys (kf := ord) (vf := fun _ => true), fold_keys (kf := ord) (vf := fun _ => true)]
  simpa using h a
def late (l : List (Item × Item)) : List (Item × Item) := (l.map fun q => (q.2, q.1)).reverse ++ l.take 1
theorem late_len (l : List (Item × Item)) : (late l).length <= l.length + 1 := by
  unfold late
  rw [List.length_append, List.length_reverse, List.length_map, List.length_take]
  omega
theorem late_mem {l : List (Item × Item)} {q : Item × Item} (h : q ∈ late l) : q ∈ l \/ (q.2, q.1) ∈ l := by
  unfold late at h
  rcases List.mem_append.mp h with h | h
  · rw [List.mem_reverse] at h
    obtain ⟨p, hp, rfl⟩ := List.mem_map.mp h
    exact .inr hp
  · exact .inl (List.mem_of_mem_take h)
theorem clOf_late (l : List (Item × Item)) : clOf (late l) = clOf l := clOf_eq fun x => by
  constructor
  · rintro ⟨q, hq, rfl⟩
    rcases late_mem hq with z | z
    · exact ⟨q, z, rfl⟩
    · exact ⟨_, z, ord_swap q⟩
  · rintro ⟨q, hq, rfl⟩
    refine ⟨(q.2, q.1), ?_, ord_swap q⟩
    unfold late
    exact List.mem_append.mpr (.inl (List.mem_reverse.mpr (List.mem_map.mpr ⟨q, hq, rfl⟩)))
theorem rev_eq {α : Type} [DecidableEq α] {l : List α} (nd : l.Nodup) : decide (l = l.reverse) = decide (l.length < 2) := by
  match l, nd with
  | [], _ => rfl
  | [a], _ => simp
  | a :: b :: r, nd =>
    have : ¬ (a :: b :: r = (a :: b :: r).reverse) := fun e => by
      have e1 : (a :: b :: r).head? = ((a :: b :: r).reverse).head? := congrArg List.head? e
      rw [List.head?_reverse, List.getLast?_cons_cons] at e1
      have e2 : (b :: r).getLast? = some a := e1.symm
      exact (List.nodup_cons.mp nd).1 (List.mem_of_getLast? e2)
    rw [decide_eq_false this, decide_eq_false (by simp)]
theorem within_self {κ β : Type} [DecidableEq κ] [DecidableEq β] {l : List (κ × β)} (nd : (l.map Prod.fst).Nodup) : within l l = true := within_perm nd fun _ h => h
theorem eqS_of {s t : Sh} (h1 : s.pk = t.pk) (nd : (t.wants.map (·.1)).Nodup) (h2 : s.wants.length = t.wants.length) (h3 : ∀ q ∈ s.wants, q ∈ t.wants) (h4 : s.cl = t.cl) : eqS s t = (decide (s.asked = t.asked) && decide (s.rows = t.rows)) := by
  unfold eqS
  rw [decide_eq_true h1, decide_eq_true h2, within_perm nd h3, decide_eq_true h4]
  simp
theorem Dr.wnd' {d : Sh} (o : Dr d) : (d.shelf.wants.map (·.1)).Nodup := (List.filter_sublist.map (fun q : Item × List Str => q.1)).nodup o.wnd
theorem eqS_self {d : Sh} (o : Dr d) : eqS d.shelf d.shelf = true := by
  rw [eqS_of rfl o.wnd' rfl (fun _ h => h) rfl]
  simp
theorem nodup_rev {α : Type} {l : List α} (nd : l.Nodup) : l.reverse.Nodup := (List.reverse_perm l).nodup_iff.mpr nd
theorem nodup_of_keys {κ β : Type} {l : List (κ × β)} (nd : (l.map Prod.fst).Nodup) : l.Nodup := List.Pairwise.of_map Prod.fst (fun a b h z => h (by rw [z])) nd
theorem Dr.turned {d : Sh} (o : Dr d) (c3 : d.cl.length <= 3) : Dr { d with wants := d.wants.reverse, cl := late d.cl } where
  len2 := o.len2
  len5 := o.len5
  nd := o.nd
  nm := o.nm
  cnt := o.cnt
  wl := by rw [List.length_reverse]; exact o.wl
  wnd := by rw [List.map_reverse]; exact nodup_rev o.wnd
  wok := fun q hq => o.wok q (List.mem_reverse.mp hq)
  cll := by have := late_len d.cl; show (late d.cl).length <= 1000; omega
  clo := fun q hq => by
    rcases late_mem hq with z | z
    · exact o.clo q z
    · obtain ⟨a, b, c⟩ := o.clo _ z
      exact ⟨b, a, fun e => c e.symm⟩
  as1 := o.as1
  as3 := o.as3
  aso := o.aso
  rl := o.rl
  rnd := o.rnd
  rnm := o.rnm
  ro := o.ro
theorem Dr.late {d : Sh} (o : Dr d) (c3 : d.cl.length <= 3) : Dr { d with cl := late d.cl } where
  len2 := o.len2
  len5 := o.len5
  nd := o.nd
  nm := o.nm
  cnt := o.cnt
  wl := o.wl
  wnd := o.wnd
  wok := o.wok
  cll := (o.turned c3).cll
  clo := (o.turned c3).clo
  as1 := o.as1
  as3 := o.as3
  aso := o.aso
  rl := o.rl
  rnd := o.rnd
  rnm := o.rnm
  ro := o.ro
theorem Dr.asked' {d : Sh} (o : Dr d) : Dr { d with asked := d.asked.reverse } where
  len2 := o.len2
  len5 := o.len5
  nd := o.nd
  nm := o.nm
  cnt := o.cnt
  wl := o.wl
  wnd := o.wnd
  wok := o.wok
  cll := o.cll
  clo := o.clo
  as1 := by rw [List.length_reverse]; exact o.as1
  as3 := by rw [List.length_reverse]; exact o.as3
  aso := fun q hq => o.aso q (List.mem_reverse.mp hq)
  rl := o.rl
  rnd := o.rnd
  rnm := o.rnm
  ro := o.ro
theorem Dr.rows' {d : Sh} (o : Dr d) : Dr { d with rows := d.rows.reverse } where
  len2 := o.len2
  len5 := o.len5
  nd := o.nd
  nm := o.nm
  cnt := o.cnt
  wl := o.wl
  wnd := o.wnd
  wok := o.wok
  cll := o.cll
  clo := o.clo
  as1 := o.as1
  as3 := o.as3
  aso := o.aso
  rl := by rw [List.length_reverse]; exact o.rl
  rnd := by rw [List.map_reverse]; exact nodup_rev o.rnd
  rnm := fun x hx => o.rnm x (by rw [List.map_reverse] at hx; exact List.mem_reverse.mp hx)
  ro := fun q hq => o.ro q (List.mem_reverse.mp hq)
theorem eqS_turned {d : Sh} (o : Dr d) (c3 : d.cl.length <= 3) : eqS d.shelf (Sh.shelf { d with wants := d.wants.reverse, cl := late d.cl }) = true := by
  rw [eqS_of (s := d.shelf) (t := Sh.shelf { d with wants := d.wants.reverse, cl := late d.cl }) rfl (o.turned c3).wnd' (by show (d.wants.filter _).length = (d.wants.reverse.filter _).length; rw [List.filter_reverse, List.length_reverse]) (fun q hq => by show q ∈ d.wants.reverse.filter _; rw [List.filter_reverse, List.mem_reverse]; exact hq) (clOf_late d.cl).symm]
  show (decide (d.asked = d.asked) && decide (d.rows = d.rows)) = true
  simp
theorem eqS_asked {d : Sh} (o : Dr d) : eqS d.shelf (Sh.shelf { d with asked := d.asked.reverse }) = decide (d.asked = d.asked.reverse) := by
  rw [eqS_of (s := d.shelf) (t := Sh.shelf { d with asked := d.asked.reverse }) rfl o.asked'.wnd' rfl (fun _ h => h) rfl]
  show (decide (d.asked = d.asked.reverse) && decide (d.rows = d.rows)) = _
  simp
theorem eqS_rows {d : Sh} (o : Dr d) : eqS d.shelf (Sh.shelf { d with rows := d.rows.reverse }) = decide (d.rows.length < 2) := by
  rw [eqS_of (s := d.shelf) (t := Sh.shelf { d with rows := d.rows.reverse }) rfl o.rows'.wnd' rfl (fun _ h => h) rfl]
  show (decide (d.asked = d.asked) && decide (d.rows = d.rows.reverse)) = _
  rw [rev_eq (nodup_of_keys o.rnd)]
  simp
section
variable {h : MH}
theorem len_rowsW (d : Sh) (h : MH) : wLen [d.rowsW] h = some (.int (d.rows.length : Nat)) := by
  show some (W.int (((d.rows.map Prod.fst).map fun x => W.str x).length : Nat)) = _
  rw [List.length_map, List.length_map]
theorem equal_right_eq (ok : h.Ok) {d : Sh} (o : Dr d) (c3 : d.cl.length <= 3) : m__law_equal_right [d.dw, d.shelf.w] h = .ok (.bl true) h := by
  have rl := o.rl
  have wl := o.wl
  let d1 : Sh := { d with wants := d.wants.reverse, cl := late d.cl }
  let d2 : Sh := { d with asked := d.asked.reverse }
  let d3 : Sh := { d with rows := d.rows.reverse }
  have o1 : Dr d1 := o.turned c3
  have o2 : Dr d2 := o.asked'
  have o3 : Dr d3 := o.rows'
  let me (a2 a3 a4 a5 : Option W) : Me := [some d.dw, some d.shelf.w, a2, a3, a4, a5, some d.most, some d.wantsW, some (.lst (d.cl.map ePair)), some (.lst (d.asked.map eT)), some d.rowsW, none]
  have s1 : er1 (padM 10 [d.dw, d.shelf.w]) h = .nx (me none none none none) h := asg_go rfl rfl
  have z : ("zzz" : Str) ∉ d.shelf.rows.map (·.1) := fun hm => absurd (o.rnm ("zzz" : Str) hm) (by decide)
  have t2 : er2t (me none none none none) h = .ok (.bl false) h := by
    refine or_go (k := false) (l := false) (bin_go (cb_go (cons_go rfl nil_go) (lenO_go rfl (pure_len d.shelf) (by show d.rows.length <= 100000; omega))) (cb_go (cons_go rfl nil_go) (len_rowsW d h)) (ne_int _ _)) fun _ => or_go (k := false) (l := false) (bin_go rfl rfl ?_) fun _ => not_go (k := true) (bin_go rfl (call_go (cons_go rfl nil_go) (law_shelf_eq ok o)) ?_)
    · refine (inO_go rfl (pure_in d.shelf "zzz")).trans ?_
      rw [decide_eq_false z]
      rfl
    · refine (eqO_go rfl (pure_shelf_eq o.wnd')).trans ?_
      rw [eqS_self o]
  have s3 : er3 (me none none none none) h = .nx (me (some (.lst ((late d.cl).map ePair))) none none none) h := by
    refine set_go (bin_go (revL_go (lc_all (xs := d.cl) (enc := ePair) (f := fun q : Item × Item => ePair (q.2, q.1)) (seqm_go rfl rfl) (by omega) fun q hq => ⟨_, rfl, tup_go (cons_go rfl (cons_go rfl nil_go)) rfl⟩)) (sl_go rfl rfl (os_go rfl) (z := .lst ((d.cl.take 1).map ePair)) (congrArg (fun z => some (W.lst z)) (cut_take ePair d.cl 1))) ?_)
    show wIf (lenLe ((d.cl.map fun q => ePair (q.2, q.1)).reverse.length + ((d.cl.take 1).map ePair).length)) (W.lst ((d.cl.map fun q => ePair (q.2, q.1)).reverse ++ (d.cl.take 1).map ePair)) = _
    have e : (d.cl.map fun q => ePair (q.2, q.1)).reverse ++ (d.cl.take 1).map ePair = (late d.cl).map ePair := by
      unfold late
      rw [List.map_append, List.map_reverse, List.map_map]
      rfl
    rw [e, lenLe_of (by rw [List.length_reverse, List.length_map, List.length_map, List.length_take]; omega)]
    rfl
  have s4 : er4 (me (some (.lst ((late d.cl).map ePair))) none none none) h = .nx (me (some (.lst ((late d.cl).map ePair))) (some d1.wantsW) none none) h := by
    refine set_go (cb_go (cons_go (revL_go (lstIt_go (ks := (d.wants.map (·.1)).map eItem) (vs := (d.wants.map (·.2)).map eT) rfl)) nil_go) ?_)
    rw [zip_items eItem eT d.wants, <- List.map_reverse]
    exact dictT_go kenc_item (fun _ => rfl) eT o1.wnd (by rw [List.length_reverse]; omega) h
  have t5 : er5t (me (some (.lst ((late d.cl).map ePair))) (some d1.wantsW) none none) h = .ok (.bl false) h := by
    refine not_go (k := true) (bin_go rfl (call_go (cons_go (tup_go (cons_go rfl (cons_go rfl (cons_go rfl (cons_go rfl (cons_go rfl nil_go))))) rfl) nil_go) (law_shelf_eq ok o1)) ?_)
    refine (eqO_go rfl (pure_shelf_eq o1.wnd')).trans ?_
    rw [eqS_turned o c3]
  have rv : mRevL (mV 9) (me (some (.lst ((late d.cl).map ePair))) (some d1.wantsW) none none) h = .ok (.lst (d2.asked.map eT)) h := by
    refine (revL_go (ws := d.asked.map eT) rfl).trans ?_
    rw [<- List.map_reverse]
  have s6 : er6 (me (some (.lst ((late d.cl).map ePair))) (some d1.wantsW) none none) h = .nx (me (some (.lst ((late d.cl).map ePair))) (some d1.wantsW) (some d2.shelf.w) none) h :=
    set_go (call_go (cons_go (tup_go (cons_go rfl (cons_go rfl (cons_go rfl (cons_go rv (cons_go rfl nil_go))))) rfl) nil_go) (law_shelf_eq ok o2))
  have rv2 : mRevL (mV 9) (me (some (.lst ((late d.cl).map ePair))) (some d1.wantsW) (some d2.shelf.w) none) h = .ok (.lst (d2.asked.map eT)) h := by
    refine (revL_go (ws := d.asked.map eT) rfl).trans ?_
    rw [<- List.map_reverse]
  have t7 : er7t (me (some (.lst ((late d.cl).map ePair))) (some d1.wantsW) (some d2.shelf.w) none) h = .ok (.bl false) h := by
    refine bin_go (bin_go rfl rfl (eqO_go rfl (pure_shelf_eq o2.wnd'))) (bin_go rfl rv2 (cmp_eq (enc_lst encT) (by decide) d.asked d.asked.reverse h)) ?_
    rw [eqS_asked o]
    exact ne_bl _ _
  have s8 : er8 (me (some (.lst ((late d.cl).map ePair))) (some d1.wantsW) (some d2.shelf.w) none) h = .nx (me (some (.lst ((late d.cl).map ePair))) (some d1.wantsW) (some d2.shelf.w) (some d3.rowsW)) h := by
    refine set_go (cb_go (cons_go (revL_go (lstIt_go (ks := (d.rows.map (·.1)).map fun x => W.str x) (vs := (d.rows.map (·.2)).map eRow) rfl)) nil_go) ?_)
    rw [zip_items (fun x : Str => W.str x) eRow d.rows, <- List.map_reverse]
    exact dictS_go kenc_str (fun _ => rfl) eRow o3.rnd (by rw [List.length_reverse]; omega) h
  have r9 : er9 (me (some (.lst ((late d.cl).map ePair))) (some d1.wantsW) (some d2.shelf.w) (some d3.rowsW)) h = .rt (.bl true) h := by
    refine ret_go (bin_go (bin_go rfl (call_go (cons_go (tup_go (cons_go rfl (cons_go rfl (cons_go rfl (cons_go rfl (cons_go rfl nil_go))))) rfl) nil_go) (law_shelf_eq ok o3)) (eqO_go rfl (pure_shelf_eq o3.wnd'))) (bin_go (cb_go (cons_go rfl nil_go) (len_rowsW d h)) rfl (z := .bl (decide (d.rows.length < 2))) ?_) ?_)
    · show some (W.bl (decide (((d.rows.length : Nat) : Int) < 2))) = _
      congr 2
      exact decide_eq_decide.mpr (by omega)
    · rw [eqS_rows o, cmp_eq enc_bl (by decide)]
      simp
  exact fn_rt ok rfl ok.over rfl (seq_go s1 (seq_go (if_f t2 rfl) (seq_go s3 (seq_go s4 (seq_go (if_f t5 rfl) (seq_go s6 (seq_go (if_f t7 rfl) (seq_go s8 (seq_rt r9)))))))))
end
section
variable {n : Nat} {ns : List Int} {by_ : Int} {G : Nat -> MH}
theorem need_look {d : Sh} (o : Dr d) (it : Item) : d.shelf.need it = (look it d.wants).getD [] := need_shelf o it
theorem one_right_eq (F : Fam n ns by_ G G) (b0 : 0 <= by_) : ∃ k', m__law_one_right [.ref n] (G 0) = .ok (.bl true) (G k') := by
  obtain ⟨d, k1, e1, o, r4, c3⟩ := drawn_eq3 F b0 (m := 4) (by decide) 0
  have os := o.sok
  have l5 := o.len5
  have rl := o.rl
  have ok := F.ok k1
  let me (a3 a9 a10 a11 a12 a13 : Option W) : Me := [some (.ref n), some d.dw, some d.shelf.w, a3, some d.most, some d.wantsW, some (.lst (d.cl.map ePair)), some (.lst (d.asked.map eT)), some d.rowsW, a9, a10, a11, a12, a13]
  have s1 : on1 (padM 13 [.ref n]) (G 0) = .nx [some (.ref n), some d.dw, none, none, none, none, none, none, none, none, none, none, none, none] (G k1) := set_go (call_go (cons_go rfl (cons_go rfl nil_go)) e1)
  have s2 : on2 [some (.ref n), some d.dw, none, none, none, none, none, none, none, none, none, none, none, none] (G k1) = .nx [some (.ref n), some d.dw, none, none, some d.most, some d.wantsW, some (.lst (d.cl.map ePair)), some (.lst (d.asked.map eT)), some d.rowsW, none, none, none, none, none] (G k1) := asg_go rfl rfl
  have s3 : on3 [some (.ref n), some d.dw, none, none, some d.most, some d.wantsW, some (.lst (d.cl.map ePair)), some (.lst (d.asked.map eT)), some d.rowsW, none, none, none, none, none] (G k1) = .nx (me none none none none none none) (G k1) := set_go (call_go (cons_go rfl nil_go) (law_shelf_eq ok o))
  have p1 : mProp 1 m_Shelf_packages (mV 2) (me none none none none none none) (G k1) = .ok d.most (G k1) := prop_go (fn := ["most", "wants", "clashes", "asked", "lines"]) rfl (shelf_packages_eq ok os)
  have t4 : on4t (me none none none none none none) (G k1) = .ok (.bl false) (G k1) := by
    refine bin_go p1 rfl ((cmp_dct kenc_str enc_int (by decide) true d.pk d.pk _).trans ?_)
    rw [within_self o.nd]
    simp
  have t5 : on5t (me none none none none none none) (G k1) = .ok (.bl false) (G k1) := by
    refine bin_go (cb_go (z := .lst (d.names.map fun x => W.str x)) (cons_go p1 nil_go) rfl) (cb_go (z := .lst (d.names.map fun x => W.str x)) (cons_go rfl nil_go) rfl) ?_
    rw [cmp_ne (enc_lst enc_str) (by decide)]
    simp
  have t6 : on6t (me none none none none none none) (G k1) = .ok (.bl false) (G k1) := by
    refine bin_go (prop_go (fn := ["most", "wants", "clashes", "asked", "lines"]) rfl (shelf_requests_eq ok d.shelf)) rfl ?_
    show wCmpB true (.lst (d.asked.map eT)) (.lst (d.asked.map eT)) _ = _
    rw [cmp_ne (enc_lst encT) (by decide)]
    simp
  have t7 : on7t (me none none none none none none) (G k1) = .ok (.bl false) (G k1) := by
    refine bin_go (prop_go (fn := ["most", "wants", "clashes", "asked", "lines"]) rfl (shelf_names_eq ok d.shelf)) (cb_go (z := .lst ((d.rows.map (·.1)).map fun x => W.str x)) (cons_go rfl nil_go) rfl) ?_
    show wCmpB true (.lst ((d.rows.map (·.1)).map fun x => W.str x)) _ _ = _
    rw [cmp_ne (enc_lst enc_str) (by decide)]
    simp
  let Inv8 : List Item -> Me -> MH -> Prop := fun done m h => h = G k1 /\ ∃ a3 a9, m = me a3 a9 none none none none
  obtain ⟨me8, h8, e8, rfl, a3, a9, rfl⟩ := fi_nx (src := on8s) (g := on8g) (b := on8b) (xs := d.pk) (enc := fun q : Item => W.str q.1) (me := me none none none none none none) (h := G k1) Inv8 ((seqm_go (w := d.most) rfl rfl).trans (by rw [List.map_map]; rfl)) ⟨rfl, none, none, rfl⟩ (fun done q rest m h ex i => by
    obtain ⟨rfl, a3, a9, rfl⟩ := i
    have hq : q ∈ d.pk := by rw [ex]; simp
    have hl : look q.1 d.pk = some q.2 := look_of_mem o.nd hq
    have c13 := o.cnt q hq
    let InvI : List Nat -> Me -> MH -> Prop := fun done m h => h = G k1 /\ ∃ a9, m = me (some (.str q.1)) a9 none none none none
    have src : on8b1s (me (some (.str q.1)) a9 none none none none) (G k1) = .ok ((List.range q.2.toNat).map fun k : Nat => W.int (1 + (k : Int))) (G k1) := by
      refine (rng2_go (i := 1) (j := q.2 + 1) (cons_go rfl (cons_go (bin_go (x := .int q.2) (bin_go (x := d.most) rfl rfl (ix_dct kenc_str (f := fun i : Int => W.int i) _ hl)) rfl rfl) nil_go)) (fit62_of (by decide) (by decide)) (fit62_of (by omega) (by omega))).trans ?_
      rw [show q.2 + 1 - 1 = q.2 by omega]
    obtain ⟨me9, h9, e9, rfl, b9, rfl⟩ := fi_nx (src := on8b1s) (g := on8b1g) (b := on8b1b) (xs := List.range q.2.toNat) (enc := fun k : Nat => W.int (1 + (k : Int))) (me := me (some (.str q.1)) a9 none none none none) (h := G k1) InvI src ⟨rfl, a9, rfl⟩ (fun done k rest m h ex i => by
      obtain ⟨rfl, a9, rfl⟩ := i
      have hk : k < q.2.toNat := List.mem_range.mp (by rw [ex]; simp)
      have io : ItemOk d.pk (q.1, 1 + (k : Int)) := ⟨q.2, hl, c13.2, by show (1 : Int) <= 1 + (k : Int); omega, by show 1 + (k : Int) <= q.2; omega⟩
      have t : on8b1b1t (me (some (.str q.1)) (some (.int (1 + (k : Int)))) none none none none) (G k1) = .ok (.bl false) (G k1) := by
        refine bin_go (mt_go (fn := ["most", "wants", "clashes", "asked", "lines"]) rfl rfl (cons_go (w := eItem (q.1, 1 + (k : Int))) (tup_go (cons_go rfl (cons_go rfl nil_go)) rfl) nil_go) (shelf_needs_eq ok (s := d.shelf) io)) (meth_go (w := d.wantsW) rfl rfl (cons_go (w := eItem (q.1, 1 + (k : Int))) (tup_go (cons_go rfl (cons_go rfl nil_go)) rfl) (cons_go (w := eT []) (tup_go nil_go rfl) nil_go)) (get_dct kenc_item (f := eT) (q.1, 1 + (k : Int)) d.wants [] _)) ?_
        rw [need_look o, cmp_ne encT (by decide)]
        simp
      exact ⟨_, rfl, _, _, seq_go (if_f t rfl) rfl, rfl, _, rfl⟩)
    exact ⟨_, rfl, _, _, seq_go e9 rfl, rfl, _, _, rfl⟩)
  let Inv9 : List (Str × Row) -> Me -> MH -> Prop := fun done m h => h = G k1 /\ ∃ a3 a10 a11 a12 a13, m = me a3 a9 a10 a11 a12 a13
  obtain ⟨me9, h9, e9, rfl, b3, b10, b11, b12, b13, rfl⟩ := fi_nx (src := on9s) (g := on9g) (b := on9b) (xs := d.rows) (enc := fun q : Str × Row => W.str q.1) (me := me a3 a9 none none none none) (h := G k1) Inv9 ((seqm_go (w := d.rowsW) rfl rfl).trans (by rw [List.map_map]; rfl)) ⟨rfl, a3, none, none, none, none, rfl⟩ (fun done q rest m h ex i => by
    obtain ⟨rfl, a3, a10, a11, a12, a13, rfl⟩ := i
    have hq : q ∈ d.rows := by rw [ex]; simp
    have hl : look q.1 d.rows = some q.2 := look_of_mem o.rnd hq
    have ro := o.ro q hq
    let N : Option W := some (.str q.1)
    let B : Option W := some (eBound q.2)
    let m1 : Me := me N a9 a10 (some (eSide q.2.1)) (some (eSide q.2.2.1)) (some (.int q.2.2.2))
    let m2 : Me := me N a9 B (some (eSide q.2.1)) (some (eSide q.2.2.1)) (some (.int q.2.2.2))
    have s1 : on9b1 (me N a9 a10 a11 a12 a13) (G k1) = .nx m1 (G k1) := asg_go (w := eRow q.2) (bin_go (x := d.rowsW) rfl rfl (ix_dct kenc_str (f := eRow) _ hl)) rfl
    have s2 : on9b2 m1 (G k1) = .nx m2 (G k1) := set_go (bin_go rfl rfl (ixO_go rfl (pure_get (s := d.shelf) hl)))
    have t3 : on9b3t m2 (G k1) = .ok (.bl false) (G k1) := by
      refine bin_go (x := eSide q.2.1) (tup_go (cons_go (prop_go (fn := ["sides", "charge"]) rfl (bound_first_eq ok q.2)) (cons_go (prop_go (fn := ["sides", "charge"]) rfl (bound_versions_eq ok q.2)) nil_go)) rfl) rfl ?_
      rw [cmp_ne encSide (by decide)]
      simp
    have t4 : on9b4t m2 (G k1) = .ok (.bl false) (G k1) := by
      refine bin_go (x := eSide q.2.2.1) (tup_go (cons_go (prop_go (fn := ["sides", "charge"]) rfl (bound_second_eq ok q.2)) (cons_go (prop_go (fn := ["sides", "charge"]) rfl (bound_others_eq ok q.2)) nil_go)) rfl) rfl ?_
      rw [cmp_ne encSide (by decide)]
      simp
    have t5 : on9b5t m2 (G k1) = .ok (.bl false) (G k1) := bin_go (prop_go (fn := ["sides", "charge"]) rfl (bound_cost_eq ok q.2)) rfl (ne_int _ _)
    have t6 : on9b6t m2 (G k1) = .ok (.bl false) (G k1) := by
      refine not_go (k := true) (bin_go (negO_go (fn := ["sides", "charge"]) rfl rfl (pure_neg ro)) (bound_make ok ro.turn (cons_go (bin_go rfl rfl rfl) (cons_go (bin_go rfl rfl rfl) (cons_go (bin_go rfl rfl rfl) (cons_go (bin_go rfl rfl rfl) nil_go)))) (cons_go rfl nil_go)) ((eqO_go rfl (pure_bound_eq (turnR q.2) (turnR q.2))).trans ?_))
      simp
    have t7 : on9b7t m2 (G k1) = .ok (.bl false) (G k1) := by
      refine not_go (k := true) (bin_go (negO_go (fn := ["sides", "charge"]) (negO_go (fn := ["sides", "charge"]) rfl rfl (pure_neg ro)) rfl (pure_neg ro.turn)) rfl ((eqO_go rfl (pure_bound_eq (turnR (turnR q.2)) q.2)).trans ?_))
      simp
    have t8 : on9b8t m2 (G k1) = .ok (.bl false) (G k1) := by
      refine bin_go rfl rfl ((inO_go rfl (pure_in d.shelf q.1)).trans ?_)
      rw [decide_eq_true (show q.1 ∈ d.shelf.rows.map (·.1) from List.mem_map_of_mem (f := (·.1)) hq)]
      rfl
    exact ⟨_, rfl, _, _, seq_go s1 (seq_go s2 (seq_go (if_f t3 rfl) (seq_go (if_f t4 rfl) (seq_go (if_f t5 rfl) (seq_go (if_f t6 rfl) (seq_go (if_f t7 rfl) (seq_go (if_f t8 rfl) rfl))))))), rfl, _, _, _, _, _, rfl⟩)
  have r10 : on10 (me b3 a9 b10 b11 b12 b13) (G k1) = .rt (.bl true) (G k1) := ret_go (call_go (cons_go rfl (cons_go rfl nil_go)) (equal_right_eq ok o c3))
  have e : on (padM 13 [.ref n]) (G 0) = .rt (.bl true) (G k1) := seq_go s1 (seq_go s2 (seq_go s3 (seq_go (if_f t4 rfl) (seq_go (if_f t5 rfl) (seq_go (if_f t6 rfl) (seq_go (if_f t7 rfl) (seq_go e8 (seq_go e9 (seq_rt r10)))))))))
  exact ⟨k1, ffn_rt F rfl rfl e (F.ok _)⟩
end
end K31
end
section
namespace K31
open PySem PySem.Spec PyProof.Rows L2 Mi
theorem rangeCW_map (lo c : Int) : ∀ n : Nat, rangeCW lo c n = (List.range n).map fun k : Nat => W.int (lo + (k : Int) * c)
  | 0 => rfl
  | n + 1 => by
    rw [rangeCW, rangeCW_map (lo + c) c n, List.range_succ_eq_map, List.map_cons, List.map_map]
    congr 1
    · simp
    · apply List.map_congr_left
      intro k _
      simp only [Function.comp]
      congr 1
      rw [Int.natCast_succ, Int.add_mul]
      omega
theorem rng3_ok : ∀ j : Nat, j < 25 -> (decide ((3 : Int) ≠ 0) && (Nat.blt (3 : Int).natAbs 1073741824 && (Builtin.Range.small 0 (j : Int) 3 && decide (0 <= Builtin.Range.rangeSize 0 (j : Int) 3)))) = true := by decide +kernel
theorem keep0 : ∀ l : List (Nat × O), keepLt 0 l = []
  | [] => rfl
  | (m, o) :: r => by rw [keepLt_t (ble_t (Nat.zero_le _)), keep0 r]
theorem rng3_go {as : AM} {me : Me} {h h1 : MH} {i j c : Int} (e : as me h = .ok [.int i, .int j, .int c] h1) (g : (decide (c ≠ 0) && (Nat.blt c.natAbs 1073741824 && (Builtin.Range.small i j c && decide (0 <= Builtin.Range.rangeSize i j c)))) = true) : mRng3 as me h = .ok ((List.range (Builtin.Range.rangeSize i j c).toNat).map fun k : Nat => W.int (i + (k : Int) * c)) h1 := by
  unfold mRng3
  rw [e, bind_ok, <- rangeCW_map]
  simp only [g]
theorem turns (ns : List Int) (hl : ns.length <= 63) : ∃ l : Nat, la1s [some (.scr ns), none] h0 = .ok ((List.range l).map fun k : Nat => W.int (0 + (k : Int) * 3)) h0 := by
  have hj : ∃ j : Nat, j < 25 /\ (if (if ((ns.length : Nat) : Int) < 24 then ((ns.length : Nat) : Int) else 24) > 1 then (if ((ns.length : Nat) : Int) < 24 then ((ns.length : Nat) : Int) else 24) else 1) = (j : Int) := by
    by_cases h1 : ((ns.length : Nat) : Int) < 24
    · rw [if_pos h1]
      by_cases h2 : ((ns.length : Nat) : Int) > 1
      · rw [if_pos h2]; exact ⟨ns.length, by omega, rfl⟩
      · rw [if_neg h2]; exact ⟨1, by omega, rfl⟩
    · rw [if_neg h1, if_pos (by decide)]; exact ⟨24, by omega, rfl⟩
  obtain ⟨j, j25, ej⟩ := hj
  have e2 : (mCallB wMin2 (mCons (mC (.int 24)) (mCons (mCallB wLen (mCons (mV 0) mNil)) mNil))) [some (.scr ns), none] h0 = .ok (.int (if ((ns.length : Nat) : Int) < 24 then ((ns.length : Nat) : Int) else 24)) h0 := by
    refine cb_go (cons_go rfl (cons_go (w := .int ((ns.length : Nat) : Int)) (cb_go (cons_go rfl nil_go) ?_) nil_go)) rfl
    show some (W.int ((intsW ns).length : Nat)) = _
    rw [intsW_map, List.length_map]
  have e1 : (mCallB wMax2 (mCons (mC (.int 1)) (mCons (mCallB wMin2 (mCons (mC (.int 24)) (mCons (mCallB wLen (mCons (mV 0) mNil)) mNil))) mNil))) [some (.scr ns), none] h0 = .ok (.int (j : Int)) h0 := by
    rw [<- ej]
    exact cb_go (cons_go rfl (cons_go e2 nil_go)) rfl
  exact ⟨_, rng3_go (cons_go rfl (cons_go e1 (cons_go rfl nil_go))) (rng3_ok j j25)⟩
theorem ev (ns : List Int) (hl : ns.length <= 63) : okT (m_law [.scr ns] h0) = true := by
  obtain ⟨l, src⟩ := turns ns hl
  let Inv : List Nat -> Me -> MH -> Prop := fun done me h => h.Ok /\ ∃ a, me = [some (.scr ns), a]
  obtain ⟨me', h', e, ok', a, rfl⟩ := fi_nx (g := la1g) (b := la1b) (enc := fun k : Nat => W.int (0 + (k : Int) * 3)) Inv src ⟨ok0, none, rfl⟩ (fun done k rest me h ex i => by
    obtain ⟨ok, a, rfl⟩ := i
    let S : Nat -> MH := fun t => h.new (scW ns (0 + (k : Int) * 3) t)
    have okS : ∀ t, (S t).Ok := fun t => ok.new rfl
    have F : Fam h.nx ns (0 + (k : Int) * 3) S S := ⟨fun t => On.rfl' (okS t), fun t => get_new, fun t t' => set_new, fun _ => rfl, fun _ => rfl, Nat.lt_succ_self _⟩
    obtain ⟨k', e1⟩ := one_right_eq F (by omega)
    exact ⟨_, rfl, _, _, seq_go (if_f (not_go (k := true) (call_go (cons_go (box_go (cons_go rfl (cons_go rfl (cons_go rfl nil_go))) rfl) nil_go) e1)) rfl) rfl, okS k', _, rfl⟩)
  have r : m_law [.scr ns] h0 = .ok (.bl true) h0 := fn_rt ok0 rfl (keep0 _) rfl (seq_go e (seq_rt (ret_go rfl)))
  rw [r]
  rfl
theorem sc__law_cell_at : FnScope ["_law_script", "_law_k"] ["_law_script", "_law_k"] (defScope (top 27)) := ⟨rfl, rfl, rfl, by decide +kernel, rfl, by decide +kernel, by decide +kernel⟩
theorem k__law_cell_at {w : World} {K : PySem.W.Frag} {mg : Str -> Option Value} {base : Heap} {a : AdP} (Z : Hd K mg base) : Cal P w K mg base (adr K a) (He.ga K "_law_cell_at") 1 m__law_cell_at [] := by
  obtain ⟨fd, F⟩ := Z.c.def_ 0 (d := dd__law_cell_at) rfl
  refine ⟨⟨fd, ["_law_script", "_law_k"], [], fn_rs (fn_m F sc__law_cell_at rfl rfl (fun cdv A outer s H E hr => ?_)), (F.bindsN (ps := ["_law_script", "_law_k"]) (fun _ _ _ _ _ _ us hl => match us, hl with | [_, _], _ => rfl)), Dfl.nil⟩, F.kp⟩
  exact (ms_cons (ms_if (mt_cmpW mo_lt (me_var rfl (by first | exact .inl rfl | exact .inr (.inl rfl) | exact .inr (.inr rfl)) rfl rfl) (me_bi mc_len rfl (f_len Z) rfl (ma_cons (me_var rfl (by first | exact .inl rfl | exact .inr (.inl rfl) | exact .inr (.inr rfl)) rfl rfl) ma_nil rfl)) rfl) (ms_cons (ms_ret (me_ix hr.hu (me_var rfl (by first | exact .inl rfl | exact .inr (.inl rfl) | exact .inr (.inr rfl)) rfl rfl) (me_var rfl (by first | exact .inl rfl | exact .inr (.inl rfl) | exact .inr (.inr rfl)) rfl rfl) (fun _ _ => rfl))) ms_nil) ms_nil) (ms_cons (ms_ret me_int) ms_nil))
theorem nd__law_draw : (["_law_cell", "_law_k", "_law_below", "_law_primes"] : List Str).Nodup := by decide +kernel
theorem sc__law_draw : FnScope ["_law_cell", "_law_k", "_law_below", "_law_primes"] ["_law_cell", "_law_k", "_law_below"] (defScope (top 28)) := ⟨rfl, rfl, rfl, by decide +kernel, rfl, by decide +kernel, by decide +kernel⟩
theorem k__law_draw {w : World} {K : PySem.W.Frag} {mg : Str -> Option Value} {base : Heap} {a : AdP} (Z : Hd K mg base) : Cal P w K mg base (adr K a) (He.ga K "_law_draw") 1 m__law_draw [] := by
  obtain ⟨fd, F⟩ := Z.c.def_ 1 (d := dd__law_draw) rfl
  refine ⟨⟨fd, ["_law_cell", "_law_k", "_law_below"], [], fn_rs (fn_m F sc__law_draw rfl rfl (fun cdv A outer s H E hr => ?_)), (F.bindsN (ps := ["_law_cell", "_law_k", "_law_below"]) (fun _ _ _ _ _ _ us hl => match us, hl with | [_, _, _], _ => rfl)), Dfl.nil⟩, F.kp⟩
  exact (ms_cons (ms_set nd__law_draw (i := 3) rfl (by first | exact .inl rfl | exact .inr rfl) (me_tup (ma_cons me_int (ma_cons me_int (ma_cons me_int (ma_cons me_int (ma_cons me_int (ma_cons me_int (ma_cons me_int (ma_cons me_int (ma_cons me_int (ma_cons me_int (ma_cons me_int (ma_cons me_int (ma_cons me_int (ma_cons me_int (ma_cons me_int (ma_cons me_int ma_nil rfl) rfl) rfl) rfl) rfl) rfl) rfl) rfl) rfl) rfl) rfl) rfl) rfl) rfl) rfl) rfl)) rfl (.inl rfl)) (ms_cons (ms_ret (me_binW mo_mod (me_binW mo_mod (me_binW mo_add (me_binW mo_mul (me_var rfl (by first | exact .inl rfl | exact .inr (.inl rfl) | exact .inr (.inr rfl)) rfl rfl) me_int) (me_binW mo_mul (me_var rfl (by first | exact .inl rfl | exact .inr (.inl rfl) | exact .inr (.inr rfl)) rfl rfl) me_int)) (me_ix hr.hu (me_var rfl (by first | exact .inl rfl | exact .inr (.inl rfl) | exact .inr (.inr rfl)) rfl rfl) (me_binW mo_mod (me_var rfl (by first | exact .inl rfl | exact .inr (.inl rfl) | exact .inr (.inr rfl)) rfl rfl) me_int) (fun _ _ => rfl))) (me_var rfl (by first | exact .inl rfl | exact .inr (.inl rfl) | exact .inr (.inr rfl)) rfl rfl))) ms_nil))
theorem nd__law_number : (["_law_cell", "_law_k", "_law_below", "_law_power", "_law_times", "_law_remains", "_law_small"] : List Str).Nodup := by decide +kernel
theorem sc__law_number : FnScope ["_law_cell", "_law_k", "_law_below", "_law_power", "_law_times", "_law_remains", "_law_small"] ["_law_cell", "_law_k", "_law_below"] (defScope (top 29)) := ⟨rfl, rfl, rfl, by decide +kernel, rfl, by decide +kernel, by decide +kernel⟩
theorem k__law_number {w : World} {K : PySem.W.Frag} {mg : Str -> Option Value} {base : Heap} {a : AdP} (Z : Hd K mg base) : Cal P w K mg base (adr K a) (He.ga K "_law_number") 2 m__law_number [] := by
  obtain ⟨fd, F⟩ := Z.c.def_ 2 (d := dd__law_number) rfl
  refine ⟨⟨fd, ["_law_cell", "_law_k", "_law_below"], [], fn_rs (fn_m F sc__law_number rfl rfl (fun cdv A outer s H E hr => ?_)), (F.bindsN (ps := ["_law_cell", "_law_k", "_law_below"]) (fun _ _ _ _ _ _ us hl => match us, hl with | [_, _, _], _ => rfl)), Dfl.nil⟩, F.kp⟩
  exact (ms_cons (ms_set nd__law_number (i := 3) rfl (by first | exact .inl rfl | exact .inr rfl) me_int rfl (.inl rfl)) (ms_cons (ms_for (passes_of rfl) rfl (mi_range1 rfl (f_range Z) (ma_cons (me_binW mo_mod (me_var rfl (by first | exact .inl rfl | exact .inr (.inl rfl) | exact .inr (.inr rfl)) rfl rfl) me_int) ma_nil rfl)) (mg_name nd__law_number rfl (by first | exact .inl rfl | exact .inr rfl) (.inl rfl) (sl := [4]) (by decide)) (ms_cons (ms_set nd__law_number (i := 3) rfl (by first | exact .inl rfl | exact .inr rfl) (me_binW mo_mul (me_var rfl (by first | exact .inl rfl | exact .inr (.inl rfl) | exact .inr (.inr rfl)) rfl rfl) me_int) rfl (.inl rfl)) ms_nil) (fun _ => rfl)) (ms_cons (ms_set nd__law_number (i := 5) rfl (by first | exact .inl rfl | exact .inr rfl) (me_binW mo_fdivW (me_binW mo_sub (me_var rfl (by first | exact .inl rfl | exact .inr (.inl rfl) | exact .inr (.inr rfl)) rfl rfl) (me_binW mo_pow me_int me_int)) (me_var rfl (by first | exact .inl rfl | exact .inr (.inl rfl) | exact .inr (.inr rfl)) rfl rfl)) rfl (.inl rfl)) (ms_cons (ms_if (mt_cmpW mo_gt (me_var rfl (by first | exact .inl rfl | exact .inr (.inl rfl) | exact .inr (.inr rfl)) rfl rfl) me_int rfl) (ms_cons (ms_ret (me_binW mo_mod (me_binW mo_mod (me_var rfl (by first | exact .inl rfl | exact .inr (.inl rfl) | exact .inr (.inr rfl)) rfl rfl) me_int) (me_var rfl (by first | exact .inl rfl | exact .inr (.inl rfl) | exact .inr (.inr rfl)) rfl rfl))) ms_nil) ms_nil) (ms_cons (ms_set nd__law_number (i := 6) rfl (by first | exact .inl rfl | exact .inr rfl) (me_binW mo_mod (me_var rfl (by first | exact .inl rfl | exact .inr (.inl rfl) | exact .inr (.inr rfl)) rfl rfl) me_int) rfl (.inl rfl)) (ms_cons (ms_ret (me_binW mo_mod (me_cal (k__law_draw Z) (hr.mono (by omega)) rfl (g__law_draw Z) (L2N.takes_of rfl rfl rfl rfl) (ma_cons (me_binW mo_mul (me_binW mo_add (me_var rfl (by first | exact .inl rfl | exact .inr (.inl rfl) | exact .inr (.inr rfl)) rfl rfl) (me_binW mo_mul me_int (me_var rfl (by first | exact .inl rfl | exact .inr (.inl rfl) | exact .inr (.inr rfl)) rfl rfl))) (me_binW mo_add (me_binW mo_add (me_var rfl (by first | exact .inl rfl | exact .inr (.inl rfl) | exact .inr (.inr rfl)) rfl rfl) (me_binW mo_mul me_int (me_var rfl (by first | exact .inl rfl | exact .inr (.inl rfl) | exact .inr (.inr rfl)) rfl rfl))) me_int)) (ma_cons (me_binW mo_add (me_binW mo_mod (me_var rfl (by first | exact .inl rfl | exact .inr (.inl rfl) | exact .inr (.inr rfl)) rfl rfl) me_int) me_int) (ma_cons me_int ma_nil rfl) rfl) rfl) rfl rfl rfl) (me_var rfl (by first | exact .inl rfl | exact .inr (.inl rfl) | exact .inr (.inr rfl)) rfl rfl))) ms_nil))))))
theorem nd__law_next : (["_law_state", "_law_below", "_law_at", "_law_cell"] : List Str).Nodup := by decide +kernel
theorem sc__law_next : FnScope ["_law_state", "_law_below", "_law_at", "_law_cell"] ["_law_state", "_law_below"] (defScope (top 30)) := ⟨rfl, rfl, rfl, by decide +kernel, rfl, by decide +kernel, by decide +kernel⟩
theorem k__law_next {w : World} {K : PySem.W.Frag} {mg : Str -> Option Value} {base : Heap} {a : AdP} (Z : Hd K mg base) : Cal P w K mg base (adr K a) (He.ga K "_law_next") 3 m__law_next [] := by
  obtain ⟨fd, F⟩ := Z.c.def_ 3 (d := dd__law_next) rfl
  refine ⟨⟨fd, ["_law_state", "_law_below"], [], fn_rs (fn_m F sc__law_next rfl rfl (fun cdv A outer s H E hr => ?_)), (F.bindsN (ps := ["_law_state", "_law_below"]) (fun _ _ _ _ _ _ us hl => match us, hl with | [_, _], _ => rfl)), Dfl.nil⟩, F.kp⟩
  exact (ms_cons (ms_putL (me_var rfl (by first | exact .inl rfl | exact .inr (.inl rfl) | exact .inr (.inr rfl)) rfl rfl) me_int (me_binW mo_add (me_ix hr.hu (me_var rfl (by first | exact .inl rfl | exact .inr (.inl rfl) | exact .inr (.inr rfl)) rfl rfl) me_int (fun _ _ => rfl)) me_int) rfl) (ms_cons (ms_set nd__law_next (i := 2) rfl (by first | exact .inl rfl | exact .inr rfl) (me_binW mo_fdivW (me_ix hr.hu (me_var rfl (by first | exact .inl rfl | exact .inr (.inl rfl) | exact .inr (.inr rfl)) rfl rfl) me_int (fun _ _ => rfl)) me_int) rfl (.inl rfl)) (ms_cons (ms_set nd__law_next (i := 3) rfl (by first | exact .inl rfl | exact .inr rfl) (me_binW mo_add (me_cal (k__law_cell_at Z) (hr.mono (by omega)) rfl (g__law_cell_at Z) (L2N.takes_of rfl rfl rfl rfl) (ma_cons (me_ix hr.hu (me_var rfl (by first | exact .inl rfl | exact .inr (.inl rfl) | exact .inr (.inr rfl)) rfl rfl) me_int (fun _ _ => rfl)) (ma_cons (me_binW mo_add (me_ix hr.hu (me_var rfl (by first | exact .inl rfl | exact .inr (.inl rfl) | exact .inr (.inr rfl)) rfl rfl) me_int (fun _ _ => rfl)) (me_var rfl (by first | exact .inl rfl | exact .inr (.inl rfl) | exact .inr (.inr rfl)) rfl rfl)) ma_nil rfl) rfl) rfl rfl rfl) (me_binW mo_mul me_int (me_var rfl (by first | exact .inl rfl | exact .inr (.inl rfl) | exact .inr (.inr rfl)) rfl rfl))) rfl (.inl rfl)) (ms_cons (ms_ret (me_cal (k__law_number Z) (hr.mono (by omega)) rfl (g__law_number Z) (L2N.takes_of rfl rfl rfl rfl) (ma_cons (me_var rfl (by first | exact .inl rfl | exact .inr (.inl rfl) | exact .inr (.inr rfl)) rfl rfl) (ma_cons (me_binW mo_add (me_binW mo_mod (me_ix hr.hu (me_var rfl (by first | exact .inl rfl | exact .inr (.inl rfl) | exact .inr (.inr rfl)) rfl rfl) me_int (fun _ _ => rfl)) me_int) me_int) (ma_cons (me_var rfl (by first | exact .inl rfl | exact .inr (.inl rfl) | exact .inr (.inr rfl)) rfl rfl) ma_nil rfl) rfl) rfl) rfl rfl rfl)) ms_nil))))
theorem nd__law_some : (["_law_state", "_law_things", "_law_odds", "_law_one"] : List Str).Nodup := by decide +kernel
theorem sc__law_some : FnScope ["_law_state", "_law_things", "_law_odds", "_law_one"] ["_law_state", "_law_things", "_law_odds"] (defScope (top 32)) := ⟨rfl, rfl, rfl, by decide +kernel, rfl, by decide +kernel, by decide +kernel⟩
theorem k__law_some {w : World} {K : PySem.W.Frag} {mg : Str -> Option Value} {base : Heap} {a : AdP} (Z : Hd K mg base) : Cal P w K mg base (adr K a) (He.ga K "_law_some") 4 m__law_some [] := by
  obtain ⟨fd, F⟩ := Z.c.def_ 4 (d := dd__law_some) rfl
  refine ⟨⟨fd, ["_law_state", "_law_things", "_law_odds"], [], fn_rs (fn_m F sc__law_some rfl rfl (fun cdv A outer s H E hr => ?_)), (F.bindsN (ps := ["_law_state", "_law_things", "_law_odds"]) (fun _ _ _ _ _ _ us hl => match us, hl with | [_, _, _], _ => rfl)), Dfl.nil⟩, F.kp⟩
  exact (ms_cons (ms_ret (me_bt mc_tuple rfl (f_tuple Z) rfl (ma_cons (me_lc (own := [("_law_one", 3)]) rfl nd__law_some (mi_any (me_var rfl (by first | exact .inl rfl | exact .inr (.inl rfl) | exact .inr (.inr rfl)) rfl rfl)) (blk_mk rfl (by rfl)) rfl (fun _ _ _ _ _ => (mg_name nd__law_some rfl (by first | exact .inl rfl | exact .inr rfl) (by first | exact .inl rfl | exact .inr rfl) (sl := [3]) (by decide))) (fun _ _ _ _ _ => (mts_one (mt_cmpW (mo_eqB hr.hu) (me_cal (k__law_next Z) (hr.mono (by omega)) rfl (g__law_next Z) (takes0 rfl) (ma_cons (me_var rfl (by first | exact .inl rfl | exact .inr (.inl rfl) | exact .inr (.inr rfl)) rfl rfl) (ma_cons (me_var rfl (by first | exact .inl rfl | exact .inr (.inl rfl) | exact .inr (.inr rfl)) rfl rfl) ma_nil rfl) rfl) rfl rfl rfl) me_int rfl))) (fun _ _ _ _ _ => (me_var rfl (by first | exact .inl rfl | exact .inr (.inl rfl) | exact .inr (.inr rfl)) rfl rfl)) (fun _ => rfl)) ma_nil rfl))) ms_nil)
theorem sc__law_pick : FnScope ["_law_state", "_law_things"] ["_law_state", "_law_things"] (defScope (top 31)) := ⟨rfl, rfl, rfl, by decide +kernel, rfl, by decide +kernel, by decide +kernel⟩
theorem k__law_pick {w : World} {K : PySem.W.Frag} {mg : Str -> Option Value} {base : Heap} {a : AdP} (Z : Hd K mg base) : Cal P w K mg base (adr K a) (He.ga K "_law_pick") 4 m__law_pick [] := by
  obtain ⟨fd, F⟩ := Z.c.def_ 5 (d := dd__law_pick) rfl
  refine ⟨⟨fd, ["_law_state", "_law_things"], [], fn_rs (fn_m F sc__law_pick rfl rfl (fun cdv A outer s H E hr => ?_)), (F.bindsN (ps := ["_law_state", "_law_things"]) (fun _ _ _ _ _ _ us hl => match us, hl with | [_, _], _ => rfl)), Dfl.nil⟩, F.kp⟩
  exact (ms_cons (ms_ret (me_ix hr.hu (me_var rfl (by first | exact .inl rfl | exact .inr (.inl rfl) | exact .inr (.inr rfl)) rfl rfl) (me_cal (k__law_next Z) (hr.mono (by omega)) rfl (g__law_next Z) (L2N.takes_of rfl rfl rfl rfl) (ma_cons (me_var rfl (by first | exact .inl rfl | exact .inr (.inl rfl) | exact .inr (.inr rfl)) rfl rfl) (ma_cons (me_bi mc_len rfl (f_len Z) rfl (ma_cons (me_var rfl (by first | exact .inl rfl | exact .inr (.inl rfl) | exact .inr (.inr rfl)) rfl rfl) ma_nil rfl)) ma_nil rfl) rfl) rfl rfl rfl) (fun _ _ => rfl))) ms_nil)
theorem nd__law_item : (["_law_state", "_law_packages", "_law_name"] : List Str).Nodup := by decide +kernel
theorem sc__law_item : FnScope ["_law_state", "_law_packages", "_law_name"] ["_law_state", "_law_packages"] (defScope (top 33)) := ⟨rfl, rfl, rfl, by decide +kernel, rfl, by decide +kernel, by decide +kernel⟩
theorem k__law_item {w : World} {K : PySem.W.Frag} {mg : Str -> Option Value} {base : Heap} {a : AdP} (Z : Hd K mg base) : Cal P w K mg base (adr K a) (He.ga K "_law_item") 5 m__law_item [] := by
  obtain ⟨fd, F⟩ := Z.c.def_ 6 (d := dd__law_item) rfl
  refine ⟨⟨fd, ["_law_state", "_law_packages"], [], fn_rs (fn_m F sc__law_item rfl rfl (fun cdv A outer s H E hr => ?_)), (F.bindsN (ps := ["_law_state", "_law_packages"]) (fun _ _ _ _ _ _ us hl => match us, hl with | [_, _], _ => rfl)), Dfl.nil⟩, F.kp⟩
  exact (ms_cons (ms_set nd__law_item (i := 2) rfl (by first | exact .inl rfl | exact .inr rfl) (me_cal (k__law_pick Z) (hr.mono (by omega)) rfl (g__law_pick Z) (L2N.takes_of rfl rfl rfl rfl) (ma_cons (me_var rfl (by first | exact .inl rfl | exact .inr (.inl rfl) | exact .inr (.inr rfl)) rfl rfl) (ma_cons (me_bt (mc_list rfl) rfl (f_list Z) rfl (ma_cons (me_var rfl (by first | exact .inl rfl | exact .inr (.inl rfl) | exact .inr (.inr rfl)) rfl rfl) ma_nil rfl)) ma_nil rfl) rfl) rfl rfl rfl) rfl (.inl rfl)) (ms_cons (ms_ret (me_tup (ma_cons (me_var rfl (by first | exact .inl rfl | exact .inr (.inl rfl) | exact .inr (.inr rfl)) rfl rfl) (ma_cons (me_binW mo_add me_int (me_cal (k__law_next Z) (hr.mono (by omega)) rfl (g__law_next Z) (L2N.takes_of rfl rfl rfl rfl) (ma_cons (me_var rfl (by first | exact .inl rfl | exact .inr (.inl rfl) | exact .inr (.inr rfl)) rfl rfl) (ma_cons (me_ix hr.hu (me_var rfl (by first | exact .inl rfl | exact .inr (.inl rfl) | exact .inr (.inr rfl)) rfl rfl) (me_var rfl (by first | exact .inl rfl | exact .inr (.inl rfl) | exact .inr (.inr rfl)) rfl rfl) (fun _ _ => rfl)) ma_nil rfl) rfl) rfl rfl rfl)) ma_nil rfl) rfl))) ms_nil))
theorem nd__law_two : (["_law_state", "_law_packages", "_law_one", "_law_other", "_law_names", "_law_name"] : List Str).Nodup := by decide +kernel
theorem sc__law_two : FnScope ["_law_state", "_law_packages", "_law_one", "_law_other", "_law_names", "_law_name"] ["_law_state", "_law_packages"] (defScope (top 34)) := ⟨rfl, rfl, rfl, by decide +kernel, rfl, by decide +kernel, by decide +kernel⟩
theorem k__law_two {w : World} {K : PySem.W.Frag} {mg : Str -> Option Value} {base : Heap} {a : AdP} (Z : Hd K mg base) : Cal P w K mg base (adr K a) (He.ga K "_law_two") 6 m__law_two [] := by
  obtain ⟨fd, F⟩ := Z.c.def_ 7 (d := dd__law_two) rfl
  refine ⟨⟨fd, ["_law_state", "_law_packages"], [], fn_rs (fn_m F sc__law_two rfl rfl (fun cdv A outer s H E hr => ?_)), (F.bindsN (ps := ["_law_state", "_law_packages"]) (fun _ _ _ _ _ _ us hl => match us, hl with | [_, _], _ => rfl)), Dfl.nil⟩, F.kp⟩
  exact (ms_cons (ms_par2 (i := 2) (j := 3) rfl nd__law_two rfl rfl (by decide) rfl rfl (ma_cons (me_cal (k__law_item Z) (hr.mono (by omega)) rfl (g__law_item Z) (L2N.takes_of rfl rfl rfl rfl) (ma_cons (me_var rfl (by first | exact .inl rfl | exact .inr (.inl rfl) | exact .inr (.inr rfl)) rfl rfl) (ma_cons (me_var rfl (by first | exact .inl rfl | exact .inr (.inl rfl) | exact .inr (.inr rfl)) rfl rfl) ma_nil rfl) rfl) rfl rfl rfl) (ma_cons (me_cal (k__law_item Z) (hr.mono (by omega)) rfl (g__law_item Z) (L2N.takes_of rfl rfl rfl rfl) (ma_cons (me_var rfl (by first | exact .inl rfl | exact .inr (.inl rfl) | exact .inr (.inr rfl)) rfl rfl) (ma_cons (me_var rfl (by first | exact .inl rfl | exact .inr (.inl rfl) | exact .inr (.inr rfl)) rfl rfl) ma_nil rfl) rfl) rfl rfl rfl) ma_nil rfl) rfl) rfl rfl) (ms_cons (ms_while (passes_of rfl) (mt_cmpW (mo_eqB hr.hu) (me_ix hr.hu (me_var rfl (by first | exact .inl rfl | exact .inr (.inl rfl) | exact .inr (.inr rfl)) rfl rfl) me_int (fun _ _ => rfl)) (me_ix hr.hu (me_var rfl (by first | exact .inl rfl | exact .inr (.inl rfl) | exact .inr (.inr rfl)) rfl rfl) me_int (fun _ _ => rfl)) rfl) (ms_cons (ms_set nd__law_two (i := 4) rfl (by first | exact .inl rfl | exact .inr rfl) (me_bt (mc_list rfl) rfl (f_list Z) rfl (ma_cons (me_var rfl (by first | exact .inl rfl | exact .inr (.inl rfl) | exact .inr (.inr rfl)) rfl rfl) ma_nil rfl)) rfl (.inl rfl)) (ms_cons (ms_set nd__law_two (i := 5) rfl (by first | exact .inl rfl | exact .inr rfl) (me_ix hr.hu (me_var rfl (by first | exact .inl rfl | exact .inr (.inl rfl) | exact .inr (.inr rfl)) rfl rfl) (me_binW mo_mod (me_binW mo_add (me_bm PySem.F.plainAttrs_list PySem.F.slot_list_index PySem.F.type_list_index (mt_indexW hr.hu) ty_list (me_var rfl (by first | exact .inl rfl | exact .inr (.inl rfl) | exact .inr (.inr rfl)) rfl rfl) (ma_cons (me_ix hr.hu (me_var rfl (by first | exact .inl rfl | exact .inr (.inl rfl) | exact .inr (.inr rfl)) rfl rfl) me_int (fun _ _ => rfl)) ma_nil rfl)) me_int) (me_bi mc_len rfl (f_len Z) rfl (ma_cons (me_var rfl (by first | exact .inl rfl | exact .inr (.inl rfl) | exact .inr (.inr rfl)) rfl rfl) ma_nil rfl))) (fun _ _ => rfl)) rfl (.inl rfl)) (ms_cons (ms_set nd__law_two (i := 3) rfl (by first | exact .inl rfl | exact .inr rfl) (me_tup (ma_cons (me_var rfl (by first | exact .inl rfl | exact .inr (.inl rfl) | exact .inr (.inr rfl)) rfl rfl) (ma_cons (me_binW mo_add me_int (me_cal (k__law_next Z) (hr.mono (by omega)) rfl (g__law_next Z) (L2N.takes_of rfl rfl rfl rfl) (ma_cons (me_var rfl (by first | exact .inl rfl | exact .inr (.inl rfl) | exact .inr (.inr rfl)) rfl rfl) (ma_cons (me_ix hr.hu (me_var rfl (by first | exact .inl rfl | exact .inr (.inl rfl) | exact .inr (.inr rfl)) rfl rfl) (me_var rfl (by first | exact .inl rfl | exact .inr (.inl rfl) | exact .inr (.inr rfl)) rfl rfl) (fun _ _ => rfl)) ma_nil rfl) rfl) rfl rfl rfl)) ma_nil rfl) rfl)) rfl (.inl rfl)) ms_nil)))) (ms_cons (ms_ret (me_tup (ma_cons (me_var rfl (by first | exact .inl rfl | exact .inr (.inl rfl) | exact .inr (.inr rfl)) rfl rfl) (ma_cons (me_var rfl (by first | exact .inl rfl | exact .inr (.inl rfl) | exact .inr (.inr rfl)) rfl rfl) ma_nil rfl) rfl))) ms_nil)))
theorem nd__law_drawn : (["_law_state", "_law_most", "_law_packages", "_law_name", "_law_pairs", "_law_asked", "_law_turn", "_law_rows", "_law_wants", "_law_names", "_law_version", "_law_some_here", "_law_sides", "_law_item_here", "_law_one", "_law_other", "_law_at"] : List Str).Nodup := by decide +kernel
theorem sc__law_drawn : FnScope ["_law_state", "_law_most", "_law_packages", "_law_name", "_law_pairs", "_law_asked", "_law_turn", "_law_rows", "_law_wants", "_law_names", "_law_version", "_law_some_here", "_law_sides", "_law_item_here", "_law_one", "_law_other", "_law_at"] ["_law_state", "_law_most"] (defScope (top 35)) := ⟨rfl, rfl, rfl, by decide +kernel, rfl, by decide +kernel, by decide +kernel⟩
theorem k__law_drawn {w : World} {K : PySem.W.Frag} {mg : Str -> Option Value} {base : Heap} {a : AdP} (Z : Hd K mg base) : Cal P w K mg base (adr K a) (He.ga K "_law_drawn") 7 m__law_drawn [] := by
  obtain ⟨fd, F⟩ := Z.c.def_ 8 (d := dd__law_drawn) rfl
  refine ⟨⟨fd, ["_law_state", "_law_most"], [], fn_rs (fn_m F sc__law_drawn rfl rfl (fun cdv A outer s H E hr => ?_)), (F.bindsN (ps := ["_law_state", "_law_most"]) (fun _ _ _ _ _ _ us hl => match us, hl with | [_, _], _ => rfl)), Dfl.nil⟩, F.kp⟩
  exact (ms_cons (ms_set nd__law_drawn (i := 2) rfl (by first | exact .inl rfl | exact .inr rfl) me_dict0B rfl (.inl rfl)) (ms_cons (ms_for (passes_of rfl) rfl (mi_any (me_slice (me_lst (ma_cons me_str (ma_cons me_str (ma_cons me_str (ma_cons me_str ma_nil rfl) rfl) rfl) rfl)) mo_none (mo_some (me_binW mo_add me_int (me_cal (k__law_next Z) (hr.mono (by omega)) rfl (g__law_next Z) (L2N.takes_of rfl rfl rfl rfl) (ma_cons (me_var rfl (by first | exact .inl rfl | exact .inr (.inl rfl) | exact .inr (.inr rfl)) rfl rfl) (ma_cons me_int ma_nil rfl) rfl) rfl rfl rfl))))) (mg_name nd__law_drawn rfl (by first | exact .inl rfl | exact .inr rfl) (.inl rfl) (sl := [3]) (by decide)) (ms_cons (ms_put hr.hu (me_var rfl (by first | exact .inl rfl | exact .inr (.inl rfl) | exact .inr (.inr rfl)) rfl rfl) (me_var rfl (by first | exact .inl rfl | exact .inr (.inl rfl) | exact .inr (.inr rfl)) rfl rfl) (me_binW mo_add me_int (me_cal (k__law_next Z) (hr.mono (by omega)) rfl (g__law_next Z) (L2N.takes_of rfl rfl rfl rfl) (ma_cons (me_var rfl (by first | exact .inl rfl | exact .inr (.inl rfl) | exact .inr (.inr rfl)) rfl rfl) (ma_cons me_int ma_nil rfl) rfl) rfl rfl rfl)) rfl) ms_nil) (fun _ => rfl)) (ms_frz (i := 2) (ms_cons (ms_par2 (i := 8) (j := 9) rfl nd__law_drawn rfl rfl (by decide) rfl rfl (ma_cons me_dict0B (ma_cons (me_bt (mc_list rfl) rfl (f_list Z) rfl (ma_cons (me_var rfl (by first | exact .inl rfl | exact .inr (.inl rfl) | exact .inr (.inr rfl)) rfl rfl) ma_nil rfl)) ma_nil rfl) rfl) rfl rfl) (ms_cons (ms_for (passes_of rfl) rfl (mi_any (me_var rfl (by first | exact .inl rfl | exact .inr (.inl rfl) | exact .inr (.inr rfl)) rfl rfl)) (mg_name nd__law_drawn rfl (by first | exact .inl rfl | exact .inr rfl) (.inl rfl) (sl := [3]) (by decide)) (ms_cons (ms_for (passes_of rfl) rfl (mi_range2 rfl (f_range Z) (ma_cons me_int (ma_cons (me_binW mo_add (me_ix hr.hu (me_var rfl (by first | exact .inl rfl | exact .inr (.inl rfl) | exact .inr (.inr rfl)) rfl rfl) (me_var rfl (by first | exact .inl rfl | exact .inr (.inl rfl) | exact .inr (.inr rfl)) rfl rfl) (fun _ _ => rfl)) me_int) ma_nil rfl) rfl)) (mg_name nd__law_drawn rfl (by first | exact .inl rfl | exact .inr rfl) (.inl rfl) (sl := [10]) (by decide)) (ms_cons (ms_set nd__law_drawn (i := 11) rfl (by first | exact .inl rfl | exact .inr rfl) (me_bt mc_tuple rfl (f_tuple Z) rfl (ma_cons (me_lc (own := [("_law_one", 14)]) rfl nd__law_drawn (mi_any (me_cal (k__law_some Z) (hr.mono (by omega)) rfl (g__law_some Z) (L2N.takes_of rfl rfl rfl rfl) (ma_cons (me_var rfl (by first | exact .inl rfl | exact .inr (.inl rfl) | exact .inr (.inr rfl)) rfl rfl) (ma_cons (me_var rfl (by first | exact .inl rfl | exact .inr (.inl rfl) | exact .inr (.inr rfl)) rfl rfl) (ma_cons me_int ma_nil rfl) rfl) rfl) rfl rfl rfl)) (blk_mk rfl (by rfl)) rfl (fun _ _ _ _ _ => (mg_name nd__law_drawn rfl (by first | exact .inl rfl | exact .inr rfl) (by first | exact .inl rfl | exact .inr rfl) (sl := [14]) (by decide))) (fun _ _ _ _ _ => (mts_one (mt_cmpW (mo_neB hr.hu) (me_var rfl (by first | exact .inl rfl | exact .inr (.inl rfl) | exact .inr (.inr rfl)) rfl rfl) (me_var rfl (by first | exact .inl rfl | exact .inr (.inl rfl) | exact .inr (.inr rfl)) rfl rfl) rfl))) (fun _ _ _ _ _ => (me_var rfl (by first | exact .inl rfl | exact .inr (.inl rfl) | exact .inr (.inr rfl)) rfl rfl)) (fun _ => rfl)) ma_nil rfl)) rfl (.inl rfl)) (ms_frz (i := 11) (ms_cons (ms_if (MW.mt (mw_or (mt_cmpW (mo_neB hr.hu) (me_var rfl (by first | exact .inl rfl | exact .inr (.inl rfl) | exact .inr (.inr rfl)) rfl rfl) (me_tup ma_nil) rfl) (mw_or1 (mt_cmpW (mo_eqB hr.hu) (me_cal (k__law_next Z) (hr.mono (by omega)) rfl (g__law_next Z) (L2N.takes_of rfl rfl rfl rfl) (ma_cons (me_var rfl (by first | exact .inl rfl | exact .inr (.inl rfl) | exact .inr (.inr rfl)) rfl rfl) (ma_cons me_int ma_nil rfl) rfl) rfl rfl rfl) me_int rfl)))) (ms_cons (ms_put hr.hu (me_var rfl (by first | exact .inl rfl | exact .inr (.inl rfl) | exact .inr (.inr rfl)) rfl rfl) (me_tup (ma_cons (me_var rfl (by first | exact .inl rfl | exact .inr (.inl rfl) | exact .inr (.inr rfl)) rfl rfl) (ma_cons (me_var rfl (by first | exact .inl rfl | exact .inr (.inl rfl) | exact .inr (.inr rfl)) rfl rfl) ma_nil rfl) rfl)) (me_var rfl (by first | exact .inl rfl | exact .inr (.inl rfl) | exact .inr (.inr rfl)) rfl rfl) rfl) ms_nil) ms_nil) ms_nil))) (fun _ => rfl)) ms_nil) (fun _ => rfl)) (ms_frz (i := 8) (ms_cons (ms_setLc (i := 4) (own := [("_law_turn", 6)]) rfl rfl (sw_true rfl rfl rfl (by decide +kernel)) rfl nd__law_drawn (mi_range1 rfl (f_range Z) (ma_cons (me_cal (k__law_next Z) (hr.mono (by omega)) rfl (g__law_next Z) (L2N.takes_of rfl rfl rfl rfl) (ma_cons (me_var rfl (by first | exact .inl rfl | exact .inr (.inl rfl) | exact .inr (.inr rfl)) rfl rfl) (ma_cons me_int ma_nil rfl) rfl) rfl rfl rfl) ma_nil rfl)) (blk_mk rfl (by rfl)) rfl (fun _ _ _ _ _ => (mg_name nd__law_drawn rfl (by first | exact .inl rfl | exact .inr rfl) (by first | exact .inl rfl | exact .inr rfl) (sl := [6]) (by decide))) (fun _ _ _ _ _ => mts_nil) (fun _ _ _ _ _ => (me_cal (k__law_two Z) (hr.mono (by omega)) rfl (g__law_two Z) (takes0 rfl) (ma_cons (me_var rfl (by first | exact .inl rfl | exact .inr (.inl rfl) | exact .inr (.inr rfl)) rfl rfl) (ma_cons (me_var rfl (by first | exact .inl rfl | exact .inr (.inl rfl) | exact .inr (.inr rfl)) rfl rfl) ma_nil rfl) rfl) rfl rfl rfl)) (fun _ => rfl)) (ms_cons (ms_set nd__law_drawn (i := 5) rfl (by first | exact .inl rfl | exact .inr rfl) (me_box ma_nil) rfl (.inl rfl)) (ms_cons (ms_for (passes_of rfl) rfl (mi_range1 rfl (f_range Z) (ma_cons (me_binW mo_add me_int (me_cal (k__law_next Z) (hr.mono (by omega)) rfl (g__law_next Z) (L2N.takes_of rfl rfl rfl rfl) (ma_cons (me_var rfl (by first | exact .inl rfl | exact .inr (.inl rfl) | exact .inr (.inr rfl)) rfl rfl) (ma_cons me_int ma_nil rfl) rfl) rfl rfl rfl)) ma_nil rfl)) (mg_name nd__law_drawn rfl (by first | exact .inl rfl | exact .inr rfl) (.inl rfl) (sl := [6]) (by decide)) (ms_cons (ms_set nd__law_drawn (i := 11) rfl (by first | exact .inl rfl | exact .inr rfl) (me_cal (k__law_some Z) (hr.mono (by omega)) rfl (g__law_some Z) (L2N.takes_of rfl rfl rfl rfl) (ma_cons (me_var rfl (by first | exact .inl rfl | exact .inr (.inl rfl) | exact .inr (.inr rfl)) rfl rfl) (ma_cons (me_var rfl (by first | exact .inl rfl | exact .inr (.inl rfl) | exact .inr (.inr rfl)) rfl rfl) (ma_cons me_int ma_nil rfl) rfl) rfl) rfl rfl rfl) rfl (.inl rfl)) (ms_frz (i := 11) (ms_cons (ms_expr (me_bm PySem.F.plainAttrs_list PySem.F.slot_list_append PySem.F.type_list_append mt_appendW ty_list (me_var rfl (by first | exact .inl rfl | exact .inr (.inl rfl) | exact .inr (.inr rfl)) rfl rfl) (ma_cons (me_ifExp (mt_cmpW (mo_neB hr.hu) (me_var rfl (by first | exact .inl rfl | exact .inr (.inl rfl) | exact .inr (.inr rfl)) rfl rfl) (me_tup ma_nil) rfl) (me_var rfl (by first | exact .inl rfl | exact .inr (.inl rfl) | exact .inr (.inr rfl)) rfl rfl) (me_tup (ma_cons (me_cal (k__law_pick Z) (hr.mono (by omega)) rfl (g__law_pick Z) (L2N.takes_of rfl rfl rfl rfl) (ma_cons (me_var rfl (by first | exact .inl rfl | exact .inr (.inl rfl) | exact .inr (.inr rfl)) rfl rfl) (ma_cons (me_var rfl (by first | exact .inl rfl | exact .inr (.inl rfl) | exact .inr (.inr rfl)) rfl rfl) ma_nil rfl) rfl) rfl rfl rfl) ma_nil rfl))) ma_nil rfl)) rfl) ms_nil))) (fun _ => rfl)) (ms_frz (i := 5) (ms_cons (ms_set nd__law_drawn (i := 7) rfl (by first | exact .inl rfl | exact .inr rfl) me_dict0B rfl (.inl rfl)) (ms_cons (ms_for (passes_of rfl) rfl (mi_any (me_slice (me_lst (ma_cons me_str (ma_cons me_str (ma_cons me_str (ma_cons me_str ma_nil rfl) rfl) rfl) rfl)) mo_none (mo_some (me_cal (k__law_next Z) (hr.mono (by omega)) rfl (g__law_next Z) (L2N.takes_of rfl rfl rfl rfl) (ma_cons (me_var rfl (by first | exact .inl rfl | exact .inr (.inl rfl) | exact .inr (.inr rfl)) rfl rfl) (ma_cons (me_binW mo_add (me_var rfl (by first | exact .inl rfl | exact .inr (.inl rfl) | exact .inr (.inr rfl)) rfl rfl) me_int) ma_nil rfl) rfl) rfl rfl rfl)))) (mg_name nd__law_drawn rfl (by first | exact .inl rfl | exact .inr rfl) (.inl rfl) (sl := [3]) (by decide)) (ms_cons (ms_asg (me_cal (k__law_two Z) (hr.mono (by omega)) rfl (g__law_two Z) (L2N.takes_of rfl rfl rfl rfl) (ma_cons (me_var rfl (by first | exact .inl rfl | exact .inr (.inl rfl) | exact .inr (.inr rfl)) rfl rfl) (ma_cons (me_var rfl (by first | exact .inl rfl | exact .inr (.inl rfl) | exact .inr (.inr rfl)) rfl rfl) ma_nil rfl) rfl) rfl rfl rfl) (mg_tup rfl (mgs_cons (mg_name nd__law_drawn rfl (by first | exact .inl rfl | exact .inr rfl) (.inl rfl) (sl := [14, 15]) (by decide)) (mgs_cons (mg_name nd__law_drawn rfl (by first | exact .inl rfl | exact .inr rfl) (.inl rfl) (sl := [14, 15]) (by decide)) mgs_nil rfl) rfl) rfl rfl) rfl rfl rfl) (ms_cons (ms_if (MW.mt (mw_and (mt_cmpW (mo_neB hr.hu) (me_var rfl (by first | exact .inl rfl | exact .inr (.inl rfl) | exact .inr (.inr rfl)) rfl rfl) (me_lst ma_nil) rfl) (mw_and1 (mt_cmpW mo_gt (me_cal (k__law_next Z) (hr.mono (by omega)) rfl (g__law_next Z) (L2N.takes_of rfl rfl rfl rfl) (ma_cons (me_var rfl (by first | exact .inl rfl | exact .inr (.inl rfl) | exact .inr (.inr rfl)) rfl rfl) (ma_cons me_int ma_nil rfl) rfl) rfl rfl rfl) me_int rfl)))) (ms_cons (ms_asg (me_cal (k__law_pick Z) (hr.mono (by omega)) rfl (g__law_pick Z) (L2N.takes_of rfl rfl rfl rfl) (ma_cons (me_var rfl (by first | exact .inl rfl | exact .inr (.inl rfl) | exact .inr (.inr rfl)) rfl rfl) (ma_cons (me_var rfl (by first | exact .inl rfl | exact .inr (.inl rfl) | exact .inr (.inr rfl)) rfl rfl) ma_nil rfl) rfl) rfl rfl rfl) (mg_tup rfl (mgs_cons (mg_name nd__law_drawn rfl (by first | exact .inl rfl | exact .inr rfl) (.inl rfl) (sl := [14, 15]) (by decide)) (mgs_cons (mg_name nd__law_drawn rfl (by first | exact .inl rfl | exact .inr rfl) (.inl rfl) (sl := [14, 15]) (by decide)) mgs_nil rfl) rfl) rfl rfl) rfl rfl rfl) ms_nil) ms_nil) (ms_cons (ms_if (mt_cmpW (mo_eqB hr.hu) (me_cal (k__law_next Z) (hr.mono (by omega)) rfl (g__law_next Z) (L2N.takes_of rfl rfl rfl rfl) (ma_cons (me_var rfl (by first | exact .inl rfl | exact .inr (.inl rfl) | exact .inr (.inr rfl)) rfl rfl) (ma_cons me_int ma_nil rfl) rfl) rfl rfl rfl) me_int rfl) (ms_cons (ms_par2 (i := 14) (j := 15) rfl nd__law_drawn rfl rfl (by decide) rfl rfl (ma_cons (me_var rfl (by first | exact .inl rfl | exact .inr (.inl rfl) | exact .inr (.inr rfl)) rfl rfl) (ma_cons (me_var rfl (by first | exact .inl rfl | exact .inr (.inl rfl) | exact .inr (.inr rfl)) rfl rfl) ma_nil rfl) rfl) rfl rfl) ms_nil) ms_nil) (ms_cons (ms_set nd__law_drawn (i := 12) rfl (by first | exact .inl rfl | exact .inr rfl) (me_box ma_nil) rfl (.inl rfl)) (ms_cons (ms_for (passes_of rfl) rfl (mi_any (me_tup (ma_cons (me_var rfl (by first | exact .inl rfl | exact .inr (.inl rfl) | exact .inr (.inr rfl)) rfl rfl) (ma_cons (me_var rfl (by first | exact .inl rfl | exact .inr (.inl rfl) | exact .inr (.inr rfl)) rfl rfl) ma_nil rfl) rfl))) (mg_name nd__law_drawn rfl (by first | exact .inl rfl | exact .inr rfl) (.inl rfl) (sl := [13]) (by decide)) (ms_cons (ms_set nd__law_drawn (i := 11) rfl (by first | exact .inl rfl | exact .inr rfl) (me_box ma_nil) rfl (.inl rfl)) (ms_cons (ms_for (passes_of rfl) rfl (mi_range2 rfl (f_range Z) (ma_cons me_int (ma_cons (me_binW mo_add (me_ix hr.hu (me_var rfl (by first | exact .inl rfl | exact .inr (.inl rfl) | exact .inr (.inr rfl)) rfl rfl) (me_ix hr.hu (me_var rfl (by first | exact .inl rfl | exact .inr (.inl rfl) | exact .inr (.inr rfl)) rfl rfl) me_int (fun _ _ => rfl)) (fun _ _ => rfl)) me_int) ma_nil rfl) rfl)) (mg_name nd__law_drawn rfl (by first | exact .inl rfl | exact .inr rfl) (.inl rfl) (sl := [16]) (by decide)) (ms_cons (ms_if (MW.mt (mw_or (mt_cmpW (mo_eqB hr.hu) (me_var rfl (by first | exact .inl rfl | exact .inr (.inl rfl) | exact .inr (.inr rfl)) rfl rfl) (me_ix hr.hu (me_var rfl (by first | exact .inl rfl | exact .inr (.inl rfl) | exact .inr (.inr rfl)) rfl rfl) me_int (fun _ _ => rfl)) rfl) (mw_or1 (mt_cmpW (mo_eqB hr.hu) (me_cal (k__law_next Z) (hr.mono (by omega)) rfl (g__law_next Z) (L2N.takes_of rfl rfl rfl rfl) (ma_cons (me_var rfl (by first | exact .inl rfl | exact .inr (.inl rfl) | exact .inr (.inr rfl)) rfl rfl) (ma_cons me_int ma_nil rfl) rfl) rfl rfl rfl) me_int rfl)))) (ms_cons (ms_expr (me_bm PySem.F.plainAttrs_list PySem.F.slot_list_append PySem.F.type_list_append mt_appendW ty_list (me_var rfl (by first | exact .inl rfl | exact .inr (.inl rfl) | exact .inr (.inr rfl)) rfl rfl) (ma_cons (me_var rfl (by first | exact .inl rfl | exact .inr (.inl rfl) | exact .inr (.inr rfl)) rfl rfl) ma_nil rfl)) rfl) ms_nil) ms_nil) ms_nil) (fun _ => rfl)) (ms_frz (i := 11) (ms_cons (ms_expr (me_bm PySem.F.plainAttrs_list PySem.F.slot_list_append PySem.F.type_list_append mt_appendW ty_list (me_var rfl (by first | exact .inl rfl | exact .inr (.inl rfl) | exact .inr (.inr rfl)) rfl rfl) (ma_cons (me_tup (ma_cons (me_ix hr.hu (me_var rfl (by first | exact .inl rfl | exact .inr (.inl rfl) | exact .inr (.inr rfl)) rfl rfl) me_int (fun _ _ => rfl)) (ma_cons (me_bt mc_tuple rfl (f_tuple Z) rfl (ma_cons (me_var rfl (by first | exact .inl rfl | exact .inr (.inl rfl) | exact .inr (.inr rfl)) rfl rfl) ma_nil rfl)) ma_nil rfl) rfl)) ma_nil rfl)) rfl) ms_nil)))) (fun _ => rfl)) (ms_frz (i := 12) (ms_cons (ms_put hr.hu (me_var rfl (by first | exact .inl rfl | exact .inr (.inl rfl) | exact .inr (.inr rfl)) rfl rfl) (me_var rfl (by first | exact .inl rfl | exact .inr (.inl rfl) | exact .inr (.inr rfl)) rfl rfl) (me_tup (ma_cons (me_ix hr.hu (me_var rfl (by first | exact .inl rfl | exact .inr (.inl rfl) | exact .inr (.inr rfl)) rfl rfl) me_int (fun _ _ => rfl)) (ma_cons (me_ix hr.hu (me_var rfl (by first | exact .inl rfl | exact .inr (.inl rfl) | exact .inr (.inr rfl)) rfl rfl) me_int (fun _ _ => rfl)) (ma_cons (me_binW mo_add me_int (me_cal (k__law_next Z) (hr.mono (by omega)) rfl (g__law_next Z) (L2N.takes_of rfl rfl rfl rfl) (ma_cons (me_var rfl (by first | exact .inl rfl | exact .inr (.inl rfl) | exact .inr (.inr rfl)) rfl rfl) (ma_cons me_int ma_nil rfl) rfl) rfl rfl rfl)) ma_nil rfl) rfl) rfl)) rfl) ms_nil))))))) (fun _ => rfl)) (ms_frz (i := 7) (ms_cons (ms_ret (me_tup (ma_cons (me_var rfl (by first | exact .inl rfl | exact .inr (.inl rfl) | exact .inr (.inr rfl)) rfl rfl) (ma_cons (me_var rfl (by first | exact .inl rfl | exact .inr (.inl rfl) | exact .inr (.inr rfl)) rfl rfl) (ma_cons (me_var rfl (by first | exact .inl rfl | exact .inr (.inl rfl) | exact .inr (.inr rfl)) rfl rfl) (ma_cons (me_var rfl (by first | exact .inl rfl | exact .inr (.inl rfl) | exact .inr (.inr rfl)) rfl rfl) (ma_cons (me_var rfl (by first | exact .inl rfl | exact .inr (.inl rfl) | exact .inr (.inr rfl)) rfl rfl) ma_nil rfl) rfl) rfl) rfl) rfl))) ms_nil))))))))))))))
theorem nd_is_name : (["value", "sign"] : List Str).Nodup := by decide +kernel
theorem sc_is_name : FnScope ["value", "sign"] ["value"] (defScope (top 14)) := ⟨rfl, rfl, rfl, by decide +kernel, rfl, by decide +kernel, by decide +kernel⟩
theorem k_is_name {w : World} {K : PySem.W.Frag} {mg : Str -> Option Value} {base : Heap} {a : AdP} (Z : Hd K mg base) : Cal P w K mg base (adr K a) (He.ga K "is_name") 1 m_is_name [] := by
  obtain ⟨fd, F⟩ := Z.c.def_ 9 (d := dd_is_name) rfl
  refine ⟨⟨fd, ["value"], [], fn_rs (fn_m F sc_is_name rfl rfl (fun cdv A outer s H E hr => ?_)), (F.bindsN (ps := ["value"]) (fun _ _ _ _ _ _ us hl => match us, hl with | [_], _ => rfl)), Dfl.nil⟩, F.kp⟩
  exact (ms_cons (ms_ret (me_and (me_bi (mc_isi (isf Z)) rfl (f_isinstance Z) rfl (ma_cons (me_var rfl (by first | exact .inl rfl | exact .inr (.inl rfl) | exact .inr (.inr rfl)) rfl rfl) (ma_cons (me_ty (n := 1) rfl (f_str Z) rfl) ma_nil rfl) rfl)) (me_and (me_chain mo_le mo_le me_int (me_bi mc_len rfl (f_len Z) rfl (ma_cons (me_var rfl (by first | exact .inl rfl | exact .inr (.inl rfl) | exact .inr (.inr rfl)) rfl rfl) ma_nil rfl)) (me_globI rfl (c_MAX_NAME Z) rfl) (by with_unfolding_all rfl)) (me_one (me_bi (mc_all rfl) rfl (f_all Z) rfl (ma_cons (me_lc (own := [("sign", 1)]) rfl nd_is_name (mi_any (me_var rfl (by first | exact .inl rfl | exact .inr (.inl rfl) | exact .inr (.inr rfl)) rfl rfl)) (blk_mk rfl (by rfl)) rfl (fun _ _ _ _ _ => (mg_name nd_is_name rfl (by first | exact .inl rfl | exact .inr rfl) (by first | exact .inl rfl | exact .inr rfl) (sl := [1]) (by decide))) (fun _ _ _ _ _ => mts_nil) (fun _ _ _ _ _ => (me_cmpW (mo_in hr.hu) (me_var rfl (by first | exact .inl rfl | exact .inr (.inl rfl) | exact .inr (.inr rfl)) rfl rfl) (me_globS rfl (c_LETTERS Z) rfl) rfl)) (fun _ => rfl)) ma_nil rfl)))))) ms_nil)
theorem sc_is_integer : FnScope ["value", "low", "high"] ["value", "low", "high"] (defScope (top 13)) := ⟨rfl, rfl, rfl, by decide +kernel, rfl, by decide +kernel, by decide +kernel⟩
theorem k_is_integer {w : World} {K : PySem.W.Frag} {mg : Str -> Option Value} {base : Heap} {a : AdP} (Z : Hd K mg base) : Cal P w K mg base (adr K a) (He.ga K "is_integer") 1 m_is_integer [] := by
  obtain ⟨fd, F⟩ := Z.c.def_ 10 (d := dd_is_integer) rfl
  refine ⟨⟨fd, ["value", "low", "high"], [], fn_rs (fn_m F sc_is_integer rfl rfl (fun cdv A outer s H E hr => ?_)), (F.bindsN (ps := ["value", "low", "high"]) (fun _ _ _ _ _ _ us hl => match us, hl with | [_, _, _], _ => rfl)), Dfl.nil⟩, F.kp⟩
  exact (ms_cons (ms_ret (me_and (me_bi (mc_isi (isf Z)) rfl (f_isinstance Z) rfl (ma_cons (me_var rfl (by first | exact .inl rfl | exact .inr (.inl rfl) | exact .inr (.inr rfl)) rfl rfl) (ma_cons (me_ty (n := 0) rfl (f_int Z) rfl) ma_nil rfl) rfl)) (me_and (me_not (me_bi (mc_isi (isf Z)) rfl (f_isinstance Z) rfl (ma_cons (me_var rfl (by first | exact .inl rfl | exact .inr (.inl rfl) | exact .inr (.inr rfl)) rfl rfl) (ma_cons (me_ty (n := 2) rfl (f_bool Z) rfl) ma_nil rfl) rfl))) (me_one (me_chain mo_le mo_le (me_var rfl (by first | exact .inl rfl | exact .inr (.inl rfl) | exact .inr (.inr rfl)) rfl rfl) (me_var rfl (by first | exact .inl rfl | exact .inr (.inl rfl) | exact .inr (.inr rfl)) rfl rfl) (me_var rfl (by first | exact .inl rfl | exact .inr (.inl rfl) | exact .inr (.inr rfl)) rfl rfl) (by with_unfolding_all rfl)))))) ms_nil)
theorem nd_are_versions : (["value", "one", "other"] : List Str).Nodup := by decide +kernel
theorem sc_are_versions : FnScope ["value", "one", "other"] ["value"] (defScope (top 15)) := ⟨rfl, rfl, rfl, by decide +kernel, rfl, by decide +kernel, by decide +kernel⟩
theorem k_are_versions {w : World} {K : PySem.W.Frag} {mg : Str -> Option Value} {base : Heap} {a : AdP} (Z : Hd K mg base) : Cal P w K mg base (adr K a) (He.ga K "are_versions") 2 m_are_versions [] := by
  obtain ⟨fd, F⟩ := Z.c.def_ 11 (d := dd_are_versions) rfl
  refine ⟨⟨fd, ["value"], [], fn_rs (fn_m F sc_are_versions rfl rfl (fun cdv A outer s H E hr => ?_)), (F.bindsN (ps := ["value"]) (fun _ _ _ _ _ _ us hl => match us, hl with | [_], _ => rfl)), Dfl.nil⟩, F.kp⟩
  exact (ms_cons (ms_if (MW.mt (mw_or (mt_not (mt_val (me_bi (mc_isi (isf Z)) rfl (f_isinstance Z) rfl (ma_cons (me_var rfl (by first | exact .inl rfl | exact .inr (.inl rfl) | exact .inr (.inr rfl)) rfl rfl) (ma_cons (me_ty (n := 3) rfl (f_tuple Z) rfl) ma_nil rfl) rfl)) (fun _ => rfl))) (mw_or (mt_cmpW (mo_eqB hr.hu) (me_var rfl (by first | exact .inl rfl | exact .inr (.inl rfl) | exact .inr (.inr rfl)) rfl rfl) (me_tup ma_nil) rfl) (mw_or1 (mt_not (mt_val (me_bi (mc_all rfl) rfl (f_all Z) rfl (ma_cons (me_lc (own := [("one", 1)]) rfl nd_are_versions (mi_any (me_var rfl (by first | exact .inl rfl | exact .inr (.inl rfl) | exact .inr (.inr rfl)) rfl rfl)) (blk_mk rfl (by rfl)) rfl (fun _ _ _ _ _ => (mg_name nd_are_versions rfl (by first | exact .inl rfl | exact .inr rfl) (by first | exact .inl rfl | exact .inr rfl) (sl := [1]) (by decide))) (fun _ _ _ _ _ => mts_nil) (fun _ _ _ _ _ => (me_cal (k_is_integer Z) (hr.mono (by omega)) rfl (g_is_integer Z) (takes0 rfl) (ma_cons (me_var rfl (by first | exact .inl rfl | exact .inr (.inl rfl) | exact .inr (.inr rfl)) rfl rfl) (ma_cons me_int (ma_cons (me_globI rfl (c_MAX_VERSION Z) rfl) ma_nil rfl) rfl) rfl) rfl rfl rfl)) (fun _ => rfl)) ma_nil rfl)) (fun _ => rfl))))))) (ms_cons (ms_ret me_bl) ms_nil) ms_nil) (ms_cons (ms_ret (me_bi (mc_all rfl) rfl (f_all Z) rfl (ma_cons (me_lc (own := [("one", 1), ("other", 2)]) rfl nd_are_versions (mi_zip rfl (f_zip Z) (ma_cons (me_var rfl (by first | exact .inl rfl | exact .inr (.inl rfl) | exact .inr (.inr rfl)) rfl rfl) (ma_cons (me_slice (me_var rfl (by first | exact .inl rfl | exact .inr (.inl rfl) | exact .inr (.inr rfl)) rfl rfl) (mo_some me_int) mo_none) ma_nil rfl) rfl)) (blk_mk rfl (by rfl)) rfl (fun _ _ _ _ _ => (mg_tup rfl (mgs_cons (mg_name nd_are_versions rfl (by first | exact .inl rfl | exact .inr rfl) (by first | exact .inl rfl | exact .inr rfl) (sl := [1, 2]) (by decide)) (mgs_cons (mg_name nd_are_versions rfl (by first | exact .inl rfl | exact .inr rfl) (by first | exact .inl rfl | exact .inr rfl) (sl := [1, 2]) (by decide)) mgs_nil rfl) rfl) rfl rfl)) (fun _ _ _ _ _ => mts_nil) (fun _ _ _ _ _ => (me_cmpW mo_lt (me_var rfl (by first | exact .inl rfl | exact .inr (.inl rfl) | exact .inr (.inr rfl)) rfl rfl) (me_var rfl (by first | exact .inl rfl | exact .inr (.inl rfl) | exact .inr (.inr rfl)) rfl rfl) rfl)) (fun _ => rfl)) ma_nil rfl))) ms_nil))
theorem sc_Bound_init : FnScope ["self", "first", "versions", "second", "others", "cost"] ["self", "first", "versions", "second", "others", "cost"] (defScope (mth 16 0)) := ⟨rfl, rfl, rfl, by decide +kernel, rfl, by decide +kernel, by decide +kernel⟩
theorem g0_Bound_init {w : World} {K : PySem.W.Frag} {mg : Str -> Option Value} {base : Heap} {a : AdP} (Z : Hd K mg base) {fd : FuncData} (F : FunD K dd_Bound_init.name dd_Bound_init.qual dd_Bound_init.params dd_Bound_init.body dd_Bound_init.scope (dd_Bound_init.dvs K) (dd_Bound_init.kws K) (He.fAd K dd_Bound_init.at_) fd) : FnOk P w K mg base (L2N.CX P w) 3 (He.ma K (He.ga K "Bound") "__init__") fd ["self", "first", "versions", "second", "others", "cost"] (spM ⟨P, w, K, (adr K a)⟩ m_Bound_init) := by
  refine fn_rs (fn_m F sc_Bound_init rfl rfl fun cdv A outer s H E hr => ?_)
  exact (ms_cons (ms_if (MW.mt (mw_or (mt_not (mt_val (me_cal (k_is_name Z) (hr.mono (by omega)) rfl (g_is_name Z) (L2N.takes_of rfl rfl rfl rfl) (ma_cons (me_var rfl (by first | exact .inl rfl | exact .inr (.inl rfl) | exact .inr (.inr rfl)) rfl rfl) ma_nil rfl) rfl rfl rfl) (fun _ => rfl))) (mw_or (mt_not (mt_val (me_cal (k_is_name Z) (hr.mono (by omega)) rfl (g_is_name Z) (L2N.takes_of rfl rfl rfl rfl) (ma_cons (me_var rfl (by first | exact .inl rfl | exact .inr (.inl rfl) | exact .inr (.inr rfl)) rfl rfl) ma_nil rfl) rfl rfl rfl) (fun _ => rfl))) (mw_or1 (mt_cmpW (mo_eqB hr.hu) (me_var rfl (by first | exact .inl rfl | exact .inr (.inl rfl) | exact .inr (.inr rfl)) rfl rfl) (me_var rfl (by first | exact .inl rfl | exact .inr (.inl rfl) | exact .inr (.inr rfl)) rfl rfl) rfl))))) (ms_cons ms_never ms_nil) ms_nil) (ms_cons (ms_if (MW.mt (mw_or (mt_not (mt_val (me_cal (k_are_versions Z) (hr.mono (by omega)) rfl (g_are_versions Z) (L2N.takes_of rfl rfl rfl rfl) (ma_cons (me_var rfl (by first | exact .inl rfl | exact .inr (.inl rfl) | exact .inr (.inr rfl)) rfl rfl) ma_nil rfl) rfl rfl rfl) (fun _ => rfl))) (mw_or1 (mt_not (mt_val (me_cal (k_are_versions Z) (hr.mono (by omega)) rfl (g_are_versions Z) (L2N.takes_of rfl rfl rfl rfl) (ma_cons (me_var rfl (by first | exact .inl rfl | exact .inr (.inl rfl) | exact .inr (.inr rfl)) rfl rfl) ma_nil rfl) rfl rfl rfl) (fun _ => rfl)))))) (ms_cons ms_never ms_nil) ms_nil) (ms_cons (ms_if (mt_not (mt_val (me_cal (k_is_integer Z) (hr.mono (by omega)) rfl (g_is_integer Z) (L2N.takes_of rfl rfl rfl rfl) (ma_cons (me_var rfl (by first | exact .inl rfl | exact .inr (.inl rfl) | exact .inr (.inr rfl)) rfl rfl) (ma_cons me_int (ma_cons (me_globI rfl (c_MAX_COST Z) rfl) ma_nil rfl) rfl) rfl) rfl rfl rfl) (fun _ => rfl))) (ms_cons ms_never ms_nil) ms_nil) (ms_cons (ms_fld (me_var rfl (by first | exact .inl rfl | exact .inr (.inl rfl) | exact .inr (.inr rfl)) rfl rfl) (me_tup (ma_cons (me_tup (ma_cons (me_var rfl (by first | exact .inl rfl | exact .inr (.inl rfl) | exact .inr (.inr rfl)) rfl rfl) (ma_cons (me_var rfl (by first | exact .inl rfl | exact .inr (.inl rfl) | exact .inr (.inr rfl)) rfl rfl) ma_nil rfl) rfl)) (ma_cons (me_tup (ma_cons (me_var rfl (by first | exact .inl rfl | exact .inr (.inl rfl) | exact .inr (.inr rfl)) rfl rfl) (ma_cons (me_var rfl (by first | exact .inl rfl | exact .inr (.inl rfl) | exact .inr (.inr rfl)) rfl rfl) ma_nil rfl) rfl)) ma_nil rfl) rfl)) (a_sides Z) rfl) (ms_cons (ms_fld (me_var rfl (by first | exact .inl rfl | exact .inr (.inl rfl) | exact .inr (.inr rfl)) rfl rfl) (me_var rfl (by first | exact .inl rfl | exact .inr (.inl rfl) | exact .inr (.inr rfl)) rfl rfl) (a_charge Z) rfl) ms_nil)))))
theorem kk_Bound_init {w : World} {K : PySem.W.Frag} {mg : Str -> Option Value} {base : Heap} {a : AdP} (Z : Hd K mg base) : CalK P w K mg base (adr K a) (He.ma K (He.ga K "Bound") "__init__") 3 4 ["cost"] m_Bound_init := by
  obtain ⟨fd, F⟩ := Z.c.def_ 12 (d := dd_Bound_init) rfl
  obtain ⟨mv, hb⟩ := F.kbinds0 (ps := ["self", "first", "versions", "second", "others", "cost"]) 5 ["cost"] [] (fun us _ ws => us ++ ws) (by simp [He.DefD.kws]) (fun _ h => nomatch h) (fun r1 _ r2 => r1.append r2) (fun D doc pm an cdv ct us mv ws h1 h2 h3 => match us, mv, ws, h1, h2, h3 with | [_, _, _, _, _], [], [_], _, _, _ => rfl)
  exact ⟨fd, _, g0_Bound_init Z F, hb⟩
theorem nd_are_packages : (["value", "name", "most"] : List Str).Nodup := by decide +kernel
theorem sc_are_packages : FnScope ["value", "name", "most"] ["value"] (defScope (top 17)) := ⟨rfl, rfl, rfl, by decide +kernel, rfl, by decide +kernel, by decide +kernel⟩
theorem k_are_packages {w : World} {K : PySem.W.Frag} {mg : Str -> Option Value} {base : Heap} {a : AdP} (Z : Hd K mg base) : Cal P w K mg base (adr K a) (He.ga K "are_packages") 2 m_are_packages [] := by
  obtain ⟨fd, F⟩ := Z.c.def_ 13 (d := dd_are_packages) rfl
  refine ⟨⟨fd, ["value"], [], fn_rs (fn_m F sc_are_packages rfl rfl (fun cdv A outer s H E hr => ?_)), (F.bindsN (ps := ["value"]) (fun _ _ _ _ _ _ us hl => match us, hl with | [_], _ => rfl)), Dfl.nil⟩, F.kp⟩
  exact (ms_cons (ms_if (MW.mt (mw_or (mt_not (mt_val (me_bi (mc_isi (isf Z)) rfl (f_isinstance Z) rfl (ma_cons (me_var rfl (by first | exact .inl rfl | exact .inr (.inl rfl) | exact .inr (.inr rfl)) rfl rfl) (ma_cons (me_ty (n := 5) rfl (f_dict Z) rfl) ma_nil rfl) rfl)) (fun _ => rfl))) (mw_or1 (mt_not (mt_chain mo_le mo_le me_int (me_bi mc_len rfl (f_len Z) rfl (ma_cons (me_var rfl (by first | exact .inl rfl | exact .inr (.inl rfl) | exact .inr (.inr rfl)) rfl rfl) ma_nil rfl)) (me_globI rfl (c_MAX_PACKAGES Z) rfl) (by with_unfolding_all rfl)))))) (ms_cons (ms_ret me_bl) ms_nil) ms_nil) (ms_cons (ms_ret (me_bi (mc_all rfl) rfl (f_all Z) rfl (ma_cons (me_lc (own := [("name", 1), ("most", 2)]) rfl nd_are_packages (mi_items (me_var rfl (by first | exact .inl rfl | exact .inr (.inl rfl) | exact .inr (.inr rfl)) rfl rfl)) (blk_mk rfl (by rfl)) rfl (fun _ _ _ _ _ => (mg_tup rfl (mgs_cons (mg_name nd_are_packages rfl (by first | exact .inl rfl | exact .inr rfl) (by first | exact .inl rfl | exact .inr rfl) (sl := [1, 2]) (by decide)) (mgs_cons (mg_name nd_are_packages rfl (by first | exact .inl rfl | exact .inr rfl) (by first | exact .inl rfl | exact .inr rfl) (sl := [1, 2]) (by decide)) mgs_nil rfl) rfl) rfl rfl)) (fun _ _ _ _ _ => mts_nil) (fun _ _ _ _ _ => (me_and (me_cal (k_is_name Z) (hr.mono (by omega)) rfl (g_is_name Z) (takes0 rfl) (ma_cons (me_var rfl (by first | exact .inl rfl | exact .inr (.inl rfl) | exact .inr (.inr rfl)) rfl rfl) ma_nil rfl) rfl rfl rfl) (me_one (me_cal (k_is_integer Z) (hr.mono (by omega)) rfl (g_is_integer Z) (takes0 rfl) (ma_cons (me_var rfl (by first | exact .inl rfl | exact .inr (.inl rfl) | exact .inr (.inr rfl)) rfl rfl) (ma_cons me_int (ma_cons (me_globI rfl (c_MAX_VERSION Z) rfl) ma_nil rfl) rfl) rfl) rfl rfl rfl)))) (fun _ => rfl)) ma_nil rfl))) ms_nil))
theorem nd_are_others : (["packages", "name", "value", "one"] : List Str).Nodup := by decide +kernel
theorem sc_are_others : FnScope ["packages", "name", "value", "one"] ["packages", "name", "value"] (defScope (top 19)) := ⟨rfl, rfl, rfl, by decide +kernel, rfl, by decide +kernel, by decide +kernel⟩
theorem k_are_others {w : World} {K : PySem.W.Frag} {mg : Str -> Option Value} {base : Heap} {a : AdP} (Z : Hd K mg base) : Cal P w K mg base (adr K a) (He.ga K "are_others") 1 m_are_others [] := by
  obtain ⟨fd, F⟩ := Z.c.def_ 14 (d := dd_are_others) rfl
  refine ⟨⟨fd, ["packages", "name", "value"], [], fn_rs (fn_m F sc_are_others rfl rfl (fun cdv A outer s H E hr => ?_)), (F.bindsN (ps := ["packages", "name", "value"]) (fun _ _ _ _ _ _ us hl => match us, hl with | [_, _, _], _ => rfl)), Dfl.nil⟩, F.kp⟩
  exact (ms_cons (ms_if (MW.mt (mw_or (mt_not (mt_val (me_bi (mc_isi (isf Z)) rfl (f_isinstance Z) rfl (ma_cons (me_var rfl (by first | exact .inl rfl | exact .inr (.inl rfl) | exact .inr (.inr rfl)) rfl rfl) (ma_cons (me_ty (n := 3) rfl (f_tuple Z) rfl) ma_nil rfl) rfl)) (fun _ => rfl))) (mw_or1 (mt_not (mt_val (me_bi (mc_all rfl) rfl (f_all Z) rfl (ma_cons (me_lc (own := [("one", 3)]) rfl nd_are_others (mi_any (me_var rfl (by first | exact .inl rfl | exact .inr (.inl rfl) | exact .inr (.inr rfl)) rfl rfl)) (blk_mk rfl (by rfl)) rfl (fun _ _ _ _ _ => (mg_name nd_are_others rfl (by first | exact .inl rfl | exact .inr rfl) (by first | exact .inl rfl | exact .inr rfl) (sl := [3]) (by decide))) (fun _ _ _ _ _ => mts_nil) (fun _ _ _ _ _ => (me_and (me_bi (mc_isi (isf Z)) rfl (f_isinstance Z) rfl (ma_cons (me_var rfl (by first | exact .inl rfl | exact .inr (.inl rfl) | exact .inr (.inr rfl)) rfl rfl) (ma_cons (me_ty (n := 1) rfl (f_str Z) rfl) ma_nil rfl) rfl)) (me_one (me_cmpW (mo_in hr.hu) (me_var rfl (by first | exact .inl rfl | exact .inr (.inl rfl) | exact .inr (.inr rfl)) rfl rfl) (me_var rfl (by first | exact .inl rfl | exact .inr (.inl rfl) | exact .inr (.inr rfl)) rfl rfl) rfl)))) (fun _ => rfl)) ma_nil rfl)) (fun _ => rfl)))))) (ms_cons (ms_ret me_bl) ms_nil) ms_nil) (ms_cons (ms_ret (me_and (me_cmpW (mo_notIn hr.hu) (me_var rfl (by first | exact .inl rfl | exact .inr (.inl rfl) | exact .inr (.inr rfl)) rfl rfl) (me_var rfl (by first | exact .inl rfl | exact .inr (.inl rfl) | exact .inr (.inr rfl)) rfl rfl) rfl) (me_one (me_cmpW (mo_eqB hr.hu) (me_bi mc_len rfl (f_len Z) rfl (ma_cons (me_dc (own := [("one", 3)]) hr.hu rfl nd_are_others (mi_any (me_var rfl (by first | exact .inl rfl | exact .inr (.inl rfl) | exact .inr (.inr rfl)) rfl rfl)) (blk_mk rfl (by rfl)) rfl (fun _ _ _ _ _ => (mg_name nd_are_others rfl (by first | exact .inl rfl | exact .inr rfl) (by first | exact .inl rfl | exact .inr rfl) (sl := [3]) (by decide))) (fun _ _ _ _ _ => mts_nil) (fun _ _ _ _ _ => (me_var rfl (by first | exact .inl rfl | exact .inr (.inl rfl) | exact .inr (.inr rfl)) rfl rfl)) (fun _ _ _ _ _ => me_bl) (fun _ => rfl)) ma_nil rfl)) (me_bi mc_len rfl (f_len Z) rfl (ma_cons (me_var rfl (by first | exact .inl rfl | exact .inr (.inl rfl) | exact .inr (.inr rfl)) rfl rfl) ma_nil rfl)) rfl)))) ms_nil))
theorem sc_is_item : FnScope ["packages", "value"] ["packages", "value"] (defScope (top 18)) := ⟨rfl, rfl, rfl, by decide +kernel, rfl, by decide +kernel, by decide +kernel⟩
theorem k_is_item {w : World} {K : PySem.W.Frag} {mg : Str -> Option Value} {base : Heap} {a : AdP} (Z : Hd K mg base) : Cal P w K mg base (adr K a) (He.ga K "is_item") 2 m_is_item [] := by
  obtain ⟨fd, F⟩ := Z.c.def_ 15 (d := dd_is_item) rfl
  refine ⟨⟨fd, ["packages", "value"], [], fn_rs (fn_m F sc_is_item rfl rfl (fun cdv A outer s H E hr => ?_)), (F.bindsN (ps := ["packages", "value"]) (fun _ _ _ _ _ _ us hl => match us, hl with | [_, _], _ => rfl)), Dfl.nil⟩, F.kp⟩
  exact (ms_cons (ms_if (MW.mt (mw_or (mt_not (mt_val (me_bi (mc_isi (isf Z)) rfl (f_isinstance Z) rfl (ma_cons (me_var rfl (by first | exact .inl rfl | exact .inr (.inl rfl) | exact .inr (.inr rfl)) rfl rfl) (ma_cons (me_ty (n := 3) rfl (f_tuple Z) rfl) ma_nil rfl) rfl)) (fun _ => rfl))) (mw_or (mt_cmpW (mo_neB hr.hu) (me_bi mc_len rfl (f_len Z) rfl (ma_cons (me_var rfl (by first | exact .inl rfl | exact .inr (.inl rfl) | exact .inr (.inr rfl)) rfl rfl) ma_nil rfl)) me_int rfl) (mw_or (mt_not (mt_val (me_bi (mc_isi (isf Z)) rfl (f_isinstance Z) rfl (ma_cons (me_ix hr.hu (me_var rfl (by first | exact .inl rfl | exact .inr (.inl rfl) | exact .inr (.inr rfl)) rfl rfl) me_int (fun _ _ => rfl)) (ma_cons (me_ty (n := 1) rfl (f_str Z) rfl) ma_nil rfl) rfl)) (fun _ => rfl))) (mw_or1 (mt_cmpW (mo_notIn hr.hu) (me_ix hr.hu (me_var rfl (by first | exact .inl rfl | exact .inr (.inl rfl) | exact .inr (.inr rfl)) rfl rfl) me_int (fun _ _ => rfl)) (me_var rfl (by first | exact .inl rfl | exact .inr (.inl rfl) | exact .inr (.inr rfl)) rfl rfl) rfl)))))) (ms_cons (ms_ret me_bl) ms_nil) ms_nil) (ms_cons (ms_ret (me_cal (k_is_integer Z) (hr.mono (by omega)) rfl (g_is_integer Z) (L2N.takes_of rfl rfl rfl rfl) (ma_cons (me_ix hr.hu (me_var rfl (by first | exact .inl rfl | exact .inr (.inl rfl) | exact .inr (.inr rfl)) rfl rfl) me_int (fun _ _ => rfl)) (ma_cons me_int (ma_cons (me_ix hr.hu (me_var rfl (by first | exact .inl rfl | exact .inr (.inl rfl) | exact .inr (.inr rfl)) rfl rfl) (me_ix hr.hu (me_var rfl (by first | exact .inl rfl | exact .inr (.inl rfl) | exact .inr (.inr rfl)) rfl rfl) me_int (fun _ _ => rfl)) (fun _ _ => rfl)) ma_nil rfl) rfl) rfl) rfl rfl rfl)) ms_nil))
theorem nd_are_needs : (["packages", "value", "item", "some"] : List Str).Nodup := by decide +kernel
theorem sc_are_needs : FnScope ["packages", "value", "item", "some"] ["packages", "value"] (defScope (top 20)) := ⟨rfl, rfl, rfl, by decide +kernel, rfl, by decide +kernel, by decide +kernel⟩
theorem k_are_needs {w : World} {K : PySem.W.Frag} {mg : Str -> Option Value} {base : Heap} {a : AdP} (Z : Hd K mg base) : Cal P w K mg base (adr K a) (He.ga K "are_needs") 3 m_are_needs [] := by
  obtain ⟨fd, F⟩ := Z.c.def_ 16 (d := dd_are_needs) rfl
  refine ⟨⟨fd, ["packages", "value"], [], fn_rs (fn_m F sc_are_needs rfl rfl (fun cdv A outer s H E hr => ?_)), (F.bindsN (ps := ["packages", "value"]) (fun _ _ _ _ _ _ us hl => match us, hl with | [_, _], _ => rfl)), Dfl.nil⟩, F.kp⟩
  exact (ms_cons (ms_if (mt_not (mt_val (me_bi (mc_isi (isf Z)) rfl (f_isinstance Z) rfl (ma_cons (me_var rfl (by first | exact .inl rfl | exact .inr (.inl rfl) | exact .inr (.inr rfl)) rfl rfl) (ma_cons (me_ty (n := 5) rfl (f_dict Z) rfl) ma_nil rfl) rfl)) (fun _ => rfl))) (ms_cons (ms_ret me_bl) ms_nil) ms_nil) (ms_cons (ms_ret (me_bi (mc_all rfl) rfl (f_all Z) rfl (ma_cons (me_lc (own := [("item", 2), ("some", 3)]) rfl nd_are_needs (mi_items (me_var rfl (by first | exact .inl rfl | exact .inr (.inl rfl) | exact .inr (.inr rfl)) rfl rfl)) (blk_mk rfl (by rfl)) rfl (fun _ _ _ _ _ => (mg_tup rfl (mgs_cons (mg_name nd_are_needs rfl (by first | exact .inl rfl | exact .inr rfl) (by first | exact .inl rfl | exact .inr rfl) (sl := [2, 3]) (by decide)) (mgs_cons (mg_name nd_are_needs rfl (by first | exact .inl rfl | exact .inr rfl) (by first | exact .inl rfl | exact .inr rfl) (sl := [2, 3]) (by decide)) mgs_nil rfl) rfl) rfl rfl)) (fun _ _ _ _ _ => mts_nil) (fun _ _ _ _ _ => (me_and (me_cal (k_is_item Z) (hr.mono (by omega)) rfl (g_is_item Z) (takes0 rfl) (ma_cons (me_var rfl (by first | exact .inl rfl | exact .inr (.inl rfl) | exact .inr (.inr rfl)) rfl rfl) (ma_cons (me_var rfl (by first | exact .inl rfl | exact .inr (.inl rfl) | exact .inr (.inr rfl)) rfl rfl) ma_nil rfl) rfl) rfl rfl rfl) (me_one (me_cal (k_are_others Z) (hr.mono (by omega)) rfl (g_are_others Z) (takes0 rfl) (ma_cons (me_var rfl (by first | exact .inl rfl | exact .inr (.inl rfl) | exact .inr (.inr rfl)) rfl rfl) (ma_cons (me_ix hr.hu (me_var rfl (by first | exact .inl rfl | exact .inr (.inl rfl) | exact .inr (.inr rfl)) rfl rfl) me_int (fun _ _ => rfl)) (ma_cons (me_var rfl (by first | exact .inl rfl | exact .inr (.inl rfl) | exact .inr (.inr rfl)) rfl rfl) ma_nil rfl) rfl) rfl) rfl rfl rfl)))) (fun _ => rfl)) ma_nil rfl))) ms_nil))
theorem nd_is_break : (["packages", "value", "item"] : List Str).Nodup := by decide +kernel
theorem sc_is_break : FnScope ["packages", "value", "item"] ["packages", "value"] (defScope (top 21)) := ⟨rfl, rfl, rfl, by decide +kernel, rfl, by decide +kernel, by decide +kernel⟩
theorem k_is_break {w : World} {K : PySem.W.Frag} {mg : Str -> Option Value} {base : Heap} {a : AdP} (Z : Hd K mg base) : Cal P w K mg base (adr K a) (He.ga K "is_break") 3 m_is_break [] := by
  obtain ⟨fd, F⟩ := Z.c.def_ 17 (d := dd_is_break) rfl
  refine ⟨⟨fd, ["packages", "value"], [], fn_rs (fn_m F sc_is_break rfl rfl (fun cdv A outer s H E hr => ?_)), (F.bindsN (ps := ["packages", "value"]) (fun _ _ _ _ _ _ us hl => match us, hl with | [_, _], _ => rfl)), Dfl.nil⟩, F.kp⟩
  exact (ms_cons (ms_if (MW.mt (mw_or (mt_not (mt_val (me_bi (mc_isi (isf Z)) rfl (f_isinstance Z) rfl (ma_cons (me_var rfl (by first | exact .inl rfl | exact .inr (.inl rfl) | exact .inr (.inr rfl)) rfl rfl) (ma_cons (me_ty (n := 3) rfl (f_tuple Z) rfl) ma_nil rfl) rfl)) (fun _ => rfl))) (mw_or (mt_cmpW (mo_neB hr.hu) (me_bi mc_len rfl (f_len Z) rfl (ma_cons (me_var rfl (by first | exact .inl rfl | exact .inr (.inl rfl) | exact .inr (.inr rfl)) rfl rfl) ma_nil rfl)) me_int rfl) (mw_or1 (mt_not (mt_val (me_bi (mc_all rfl) rfl (f_all Z) rfl (ma_cons (me_lc (own := [("item", 2)]) rfl nd_is_break (mi_any (me_var rfl (by first | exact .inl rfl | exact .inr (.inl rfl) | exact .inr (.inr rfl)) rfl rfl)) (blk_mk rfl (by rfl)) rfl (fun _ _ _ _ _ => (mg_name nd_is_break rfl (by first | exact .inl rfl | exact .inr rfl) (by first | exact .inl rfl | exact .inr rfl) (sl := [2]) (by decide))) (fun _ _ _ _ _ => mts_nil) (fun _ _ _ _ _ => (me_cal (k_is_item Z) (hr.mono (by omega)) rfl (g_is_item Z) (takes0 rfl) (ma_cons (me_var rfl (by first | exact .inl rfl | exact .inr (.inl rfl) | exact .inr (.inr rfl)) rfl rfl) (ma_cons (me_var rfl (by first | exact .inl rfl | exact .inr (.inl rfl) | exact .inr (.inr rfl)) rfl rfl) ma_nil rfl) rfl) rfl rfl rfl)) (fun _ => rfl)) ma_nil rfl)) (fun _ => rfl))))))) (ms_cons (ms_ret me_bl) ms_nil) ms_nil) (ms_cons (ms_ret (me_cmpW (mo_neB hr.hu) (me_ix hr.hu (me_ix hr.hu (me_var rfl (by first | exact .inl rfl | exact .inr (.inl rfl) | exact .inr (.inr rfl)) rfl rfl) me_int (fun _ _ => rfl)) me_int (fun _ _ => rfl)) (me_ix hr.hu (me_ix hr.hu (me_var rfl (by first | exact .inl rfl | exact .inr (.inl rfl) | exact .inr (.inr rfl)) rfl rfl) me_int (fun _ _ => rfl)) me_int (fun _ _ => rfl)) rfl)) ms_nil))
theorem nd_is_request : (["packages", "value", "name", "one"] : List Str).Nodup := by decide +kernel
theorem sc_is_request : FnScope ["packages", "value", "name", "one"] ["packages", "value"] (defScope (top 22)) := ⟨rfl, rfl, rfl, by decide +kernel, rfl, by decide +kernel, by decide +kernel⟩
theorem k_is_request {w : World} {K : PySem.W.Frag} {mg : Str -> Option Value} {base : Heap} {a : AdP} (Z : Hd K mg base) : Cal P w K mg base (adr K a) (He.ga K "is_request") 1 m_is_request [] := by
  obtain ⟨fd, F⟩ := Z.c.def_ 18 (d := dd_is_request) rfl
  refine ⟨⟨fd, ["packages", "value"], [], fn_rs (fn_m F sc_is_request rfl rfl (fun cdv A outer s H E hr => ?_)), (F.bindsN (ps := ["packages", "value"]) (fun _ _ _ _ _ _ us hl => match us, hl with | [_, _], _ => rfl)), Dfl.nil⟩, F.kp⟩
  exact (ms_cons (ms_if (MW.mt (mw_or (mt_not (mt_val (me_bi (mc_isi (isf Z)) rfl (f_isinstance Z) rfl (ma_cons (me_var rfl (by first | exact .inl rfl | exact .inr (.inl rfl) | exact .inr (.inr rfl)) rfl rfl) (ma_cons (me_ty (n := 3) rfl (f_tuple Z) rfl) ma_nil rfl) rfl)) (fun _ => rfl))) (mw_or (mt_cmpW (mo_eqB hr.hu) (me_var rfl (by first | exact .inl rfl | exact .inr (.inl rfl) | exact .inr (.inr rfl)) rfl rfl) (me_tup ma_nil) rfl) (mw_or1 (mt_not (mt_val (me_bi (mc_all rfl) rfl (f_all Z) rfl (ma_cons (me_lc (own := [("one", 3)]) rfl nd_is_request (mi_any (me_var rfl (by first | exact .inl rfl | exact .inr (.inl rfl) | exact .inr (.inr rfl)) rfl rfl)) (blk_mk rfl (by rfl)) rfl (fun _ _ _ _ _ => (mg_name nd_is_request rfl (by first | exact .inl rfl | exact .inr rfl) (by first | exact .inl rfl | exact .inr rfl) (sl := [3]) (by decide))) (fun _ _ _ _ _ => mts_nil) (fun _ _ _ _ _ => (me_bi (mc_isi (isf Z)) rfl (f_isinstance Z) rfl (ma_cons (me_var rfl (by first | exact .inl rfl | exact .inr (.inl rfl) | exact .inr (.inr rfl)) rfl rfl) (ma_cons (me_ty (n := 1) rfl (f_str Z) rfl) ma_nil rfl) rfl))) (fun _ => rfl)) ma_nil rfl)) (fun _ => rfl))))))) (ms_cons (ms_ret me_bl) ms_nil) ms_nil) (ms_cons (ms_ret (me_cmpW (mo_eqB hr.hu) (me_bt (mc_list rfl) rfl (f_list Z) rfl (ma_cons (me_var rfl (by first | exact .inl rfl | exact .inr (.inl rfl) | exact .inr (.inr rfl)) rfl rfl) ma_nil rfl)) (me_lc (own := [("name", 2)]) rfl nd_is_request (mi_any (me_var rfl (by first | exact .inl rfl | exact .inr (.inl rfl) | exact .inr (.inr rfl)) rfl rfl)) (blk_mk rfl (by rfl)) rfl (fun _ _ _ _ _ => (mg_name nd_is_request rfl (by first | exact .inl rfl | exact .inr rfl) (by first | exact .inl rfl | exact .inr rfl) (sl := [2]) (by decide))) (fun _ _ _ _ _ => (mts_one (mt_cmpW (mo_in hr.hu) (me_var rfl (by first | exact .inl rfl | exact .inr (.inl rfl) | exact .inr (.inr rfl)) rfl rfl) (me_var rfl (by first | exact .inl rfl | exact .inr (.inl rfl) | exact .inr (.inr rfl)) rfl rfl) rfl))) (fun _ _ _ _ _ => (me_var rfl (by first | exact .inl rfl | exact .inr (.inl rfl) | exact .inr (.inr rfl)) rfl rfl)) (fun _ => rfl)) rfl)) ms_nil))
theorem nd_is_bound_of : (["packages", "value", "name", "versions"] : List Str).Nodup := by decide +kernel
theorem sc_is_bound_of : FnScope ["packages", "value", "name", "versions"] ["packages", "value"] (defScope (top 23)) := ⟨rfl, rfl, rfl, by decide +kernel, rfl, by decide +kernel, by decide +kernel⟩
theorem k_is_bound_of {w : World} {K : PySem.W.Frag} {mg : Str -> Option Value} {base : Heap} {a : AdP} (Z : Hd K mg base) : Cal P w K mg base (adr K a) (He.ga K "is_bound_of") 1 m_is_bound_of [] := by
  obtain ⟨fd, F⟩ := Z.c.def_ 19 (d := dd_is_bound_of) rfl
  refine ⟨⟨fd, ["packages", "value"], [], fn_rs (fn_m F sc_is_bound_of rfl rfl (fun cdv A outer s H E hr => ?_)), (F.bindsN (ps := ["packages", "value"]) (fun _ _ _ _ _ _ us hl => match us, hl with | [_, _], _ => rfl)), Dfl.nil⟩, F.kp⟩
  exact (ms_cons (ms_if (mt_not (mt_val (me_bi (mc_isi (isf Z)) rfl (f_isinstance Z) rfl (ma_cons (me_var rfl (by first | exact .inl rfl | exact .inr (.inl rfl) | exact .inr (.inr rfl)) rfl rfl) (ma_cons (me_cls (c := 0) rfl (g_Bound Z)) ma_nil rfl) rfl)) (fun _ => rfl))) (ms_cons (ms_ret me_bl) ms_nil) ms_nil) (ms_cons (ms_ret (me_bi (mc_all rfl) rfl (f_all Z) rfl (ma_cons (me_lc (own := [("name", 2), ("versions", 3)]) rfl nd_is_bound_of (mi_any (me_fld (me_var rfl (by first | exact .inl rfl | exact .inr (.inl rfl) | exact .inr (.inr rfl)) rfl rfl) (a_sides Z) rfl)) (blk_mk rfl (by rfl)) rfl (fun _ _ _ _ _ => (mg_tup rfl (mgs_cons (mg_name nd_is_bound_of rfl (by first | exact .inl rfl | exact .inr rfl) (by first | exact .inl rfl | exact .inr rfl) (sl := [2, 3]) (by decide)) (mgs_cons (mg_name nd_is_bound_of rfl (by first | exact .inl rfl | exact .inr rfl) (by first | exact .inl rfl | exact .inr rfl) (sl := [2, 3]) (by decide)) mgs_nil rfl) rfl) rfl rfl)) (fun _ _ _ _ _ => mts_nil) (fun _ _ _ _ _ => (me_and (me_cmpW (mo_in hr.hu) (me_var rfl (by first | exact .inl rfl | exact .inr (.inl rfl) | exact .inr (.inr rfl)) rfl rfl) (me_var rfl (by first | exact .inl rfl | exact .inr (.inl rfl) | exact .inr (.inr rfl)) rfl rfl) rfl) (me_one (me_cmpW mo_le (me_ix hr.hu (me_var rfl (by first | exact .inl rfl | exact .inr (.inl rfl) | exact .inr (.inr rfl)) rfl rfl) (me_neg me_int) (fun _ _ => rfl)) (me_ix hr.hu (me_var rfl (by first | exact .inl rfl | exact .inr (.inl rfl) | exact .inr (.inr rfl)) rfl rfl) (me_var rfl (by first | exact .inl rfl | exact .inr (.inl rfl) | exact .inr (.inr rfl)) rfl rfl) (fun _ _ => rfl)) rfl)))) (fun _ => rfl)) ma_nil rfl))) ms_nil))
theorem nd_Shelf_init : (["self", "packages", "needs", "breaks", "requests", "bounds", "name", "count", "item", "some", "bound", "one", "pair"] : List Str).Nodup := by decide +kernel
theorem sc_Shelf_init : FnScope ["self", "packages", "needs", "breaks", "requests", "bounds", "name", "count", "item", "some", "bound", "one", "pair"] ["self", "packages", "needs", "breaks", "requests", "bounds"] (defScope (mth 24 0)) := ⟨rfl, rfl, rfl, by decide +kernel, rfl, by decide +kernel, by decide +kernel⟩
theorem k_Shelf_init {w : World} {K : PySem.W.Frag} {mg : Str -> Option Value} {base : Heap} {a : AdP} (Z : Hd K mg base) : Cal P w K mg base (adr K a) (He.ma K (He.ga K "Shelf") "__init__") 4 m_Shelf_init [] := by
  obtain ⟨fd, F⟩ := Z.c.def_ 20 (d := dd_Shelf_init) rfl
  refine ⟨⟨fd, ["self", "packages", "needs", "breaks", "requests", "bounds"], [], fn_rs (fn_m F sc_Shelf_init rfl rfl (fun cdv A outer s H E hr => ?_)), (F.bindsN (ps := ["self", "packages", "needs", "breaks", "requests", "bounds"]) (fun _ _ _ _ _ _ us hl => match us, hl with | [_, _, _, _, _, _], _ => rfl)), Dfl.nil⟩, F.kp⟩
  exact (ms_cons (ms_if (mt_not (mt_val (me_cal (k_are_packages Z) (hr.mono (by omega)) rfl (g_are_packages Z) (L2N.takes_of rfl rfl rfl rfl) (ma_cons (me_var rfl (by first | exact .inl rfl | exact .inr (.inl rfl) | exact .inr (.inr rfl)) rfl rfl) ma_nil rfl) rfl rfl rfl) (fun _ => rfl))) (ms_cons ms_never ms_nil) ms_nil) (ms_cons (ms_if (mt_not (mt_val (me_cal (k_are_needs Z) (hr.mono (by omega)) rfl (g_are_needs Z) (L2N.takes_of rfl rfl rfl rfl) (ma_cons (me_var rfl (by first | exact .inl rfl | exact .inr (.inl rfl) | exact .inr (.inr rfl)) rfl rfl) (ma_cons (me_var rfl (by first | exact .inl rfl | exact .inr (.inl rfl) | exact .inr (.inr rfl)) rfl rfl) ma_nil rfl) rfl) rfl rfl rfl) (fun _ => rfl))) (ms_cons ms_never ms_nil) ms_nil) (ms_cons (ms_if (MW.mt (mw_or (mt_not (mt_val (me_bi (mc_isi (isf Z)) rfl (f_isinstance Z) rfl (ma_cons (me_var rfl (by first | exact .inl rfl | exact .inr (.inl rfl) | exact .inr (.inr rfl)) rfl rfl) (ma_cons (me_tup (ma_cons (me_ty (n := 4) rfl (f_list Z) rfl) (ma_cons (me_ty (n := 3) rfl (f_tuple Z) rfl) ma_nil rfl) rfl)) ma_nil rfl) rfl)) (fun _ => rfl))) (mw_or1 (mt_not (mt_val (me_bi (mc_all rfl) rfl (f_all Z) rfl (ma_cons (me_lc (own := [("pair", 12)]) rfl nd_Shelf_init (mi_any (me_var rfl (by first | exact .inl rfl | exact .inr (.inl rfl) | exact .inr (.inr rfl)) rfl rfl)) (blk_mk rfl (by rfl)) rfl (fun _ _ _ _ _ => (mg_name nd_Shelf_init rfl (by first | exact .inl rfl | exact .inr rfl) (by first | exact .inl rfl | exact .inr rfl) (sl := [12]) (by decide))) (fun _ _ _ _ _ => mts_nil) (fun _ _ _ _ _ => (me_cal (k_is_break Z) (hr.mono (by omega)) rfl (g_is_break Z) (takes0 rfl) (ma_cons (me_var rfl (by first | exact .inl rfl | exact .inr (.inl rfl) | exact .inr (.inr rfl)) rfl rfl) (ma_cons (me_var rfl (by first | exact .inl rfl | exact .inr (.inl rfl) | exact .inr (.inr rfl)) rfl rfl) ma_nil rfl) rfl) rfl rfl rfl)) (fun _ => rfl)) ma_nil rfl)) (fun _ => rfl)))))) (ms_cons ms_never ms_nil) ms_nil) (ms_cons (ms_if (MW.mt (mw_or (mt_not (mt_val (me_bi (mc_isi (isf Z)) rfl (f_isinstance Z) rfl (ma_cons (me_var rfl (by first | exact .inl rfl | exact .inr (.inl rfl) | exact .inr (.inr rfl)) rfl rfl) (ma_cons (me_tup (ma_cons (me_ty (n := 4) rfl (f_list Z) rfl) (ma_cons (me_ty (n := 3) rfl (f_tuple Z) rfl) ma_nil rfl) rfl)) ma_nil rfl) rfl)) (fun _ => rfl))) (mw_or1 (mt_not (mt_chain mo_le mo_le me_int (me_bi mc_len rfl (f_len Z) rfl (ma_cons (me_var rfl (by first | exact .inl rfl | exact .inr (.inl rfl) | exact .inr (.inr rfl)) rfl rfl) ma_nil rfl)) (me_globI rfl (c_MAX_REQUESTS Z) rfl) (by with_unfolding_all rfl)))))) (ms_cons ms_never ms_nil) ms_nil) (ms_cons (ms_if (mt_not (mt_val (me_bi (mc_all rfl) rfl (f_all Z) rfl (ma_cons (me_lc (own := [("one", 11)]) rfl nd_Shelf_init (mi_any (me_var rfl (by first | exact .inl rfl | exact .inr (.inl rfl) | exact .inr (.inr rfl)) rfl rfl)) (blk_mk rfl (by rfl)) rfl (fun _ _ _ _ _ => (mg_name nd_Shelf_init rfl (by first | exact .inl rfl | exact .inr rfl) (by first | exact .inl rfl | exact .inr rfl) (sl := [11]) (by decide))) (fun _ _ _ _ _ => mts_nil) (fun _ _ _ _ _ => (me_cal (k_is_request Z) (hr.mono (by omega)) rfl (g_is_request Z) (takes0 rfl) (ma_cons (me_var rfl (by first | exact .inl rfl | exact .inr (.inl rfl) | exact .inr (.inr rfl)) rfl rfl) (ma_cons (me_var rfl (by first | exact .inl rfl | exact .inr (.inl rfl) | exact .inr (.inr rfl)) rfl rfl) ma_nil rfl) rfl) rfl rfl rfl)) (fun _ => rfl)) ma_nil rfl)) (fun _ => rfl))) (ms_cons ms_never ms_nil) ms_nil) (ms_cons (ms_if (MW.mt (mw_or (mt_not (mt_val (me_bi (mc_isi (isf Z)) rfl (f_isinstance Z) rfl (ma_cons (me_var rfl (by first | exact .inl rfl | exact .inr (.inl rfl) | exact .inr (.inr rfl)) rfl rfl) (ma_cons (me_ty (n := 5) rfl (f_dict Z) rfl) ma_nil rfl) rfl)) (fun _ => rfl))) (mw_or1 (mt_cmpW mo_gt (me_bi mc_len rfl (f_len Z) rfl (ma_cons (me_var rfl (by first | exact .inl rfl | exact .inr (.inl rfl) | exact .inr (.inr rfl)) rfl rfl) ma_nil rfl)) (me_globI rfl (c_MAX_BOUNDS Z) rfl) rfl)))) (ms_cons ms_never ms_nil) ms_nil) (ms_cons (ms_if (mt_not (mt_val (me_bi (mc_all rfl) rfl (f_all Z) rfl (ma_cons (me_lc (own := [("name", 6), ("bound", 10)]) rfl nd_Shelf_init (mi_items (me_var rfl (by first | exact .inl rfl | exact .inr (.inl rfl) | exact .inr (.inr rfl)) rfl rfl)) (blk_mk rfl (by rfl)) rfl (fun _ _ _ _ _ => (mg_tup rfl (mgs_cons (mg_name nd_Shelf_init rfl (by first | exact .inl rfl | exact .inr rfl) (by first | exact .inl rfl | exact .inr rfl) (sl := [6, 10]) (by decide)) (mgs_cons (mg_name nd_Shelf_init rfl (by first | exact .inl rfl | exact .inr rfl) (by first | exact .inl rfl | exact .inr rfl) (sl := [6, 10]) (by decide)) mgs_nil rfl) rfl) rfl rfl)) (fun _ _ _ _ _ => mts_nil) (fun _ _ _ _ _ => (me_and (me_cal (k_is_name Z) (hr.mono (by omega)) rfl (g_is_name Z) (takes0 rfl) (ma_cons (me_var rfl (by first | exact .inl rfl | exact .inr (.inl rfl) | exact .inr (.inr rfl)) rfl rfl) ma_nil rfl) rfl rfl rfl) (me_one (me_cal (k_is_bound_of Z) (hr.mono (by omega)) rfl (g_is_bound_of Z) (takes0 rfl) (ma_cons (me_var rfl (by first | exact .inl rfl | exact .inr (.inl rfl) | exact .inr (.inr rfl)) rfl rfl) (ma_cons (me_var rfl (by first | exact .inl rfl | exact .inr (.inl rfl) | exact .inr (.inr rfl)) rfl rfl) ma_nil rfl) rfl) rfl rfl rfl)))) (fun _ => rfl)) ma_nil rfl)) (fun _ => rfl))) (ms_cons ms_never ms_nil) ms_nil) (ms_cons (ms_fld (me_var rfl (by first | exact .inl rfl | exact .inr (.inl rfl) | exact .inr (.inr rfl)) rfl rfl) (me_dc (own := [("name", 6), ("count", 7)]) hr.hu rfl nd_Shelf_init (mi_items (me_var rfl (by first | exact .inl rfl | exact .inr (.inl rfl) | exact .inr (.inr rfl)) rfl rfl)) (blk_mk rfl (by rfl)) rfl (fun _ _ _ _ _ => (mg_tup rfl (mgs_cons (mg_name nd_Shelf_init rfl (by first | exact .inl rfl | exact .inr rfl) (by first | exact .inl rfl | exact .inr rfl) (sl := [6, 7]) (by decide)) (mgs_cons (mg_name nd_Shelf_init rfl (by first | exact .inl rfl | exact .inr rfl) (by first | exact .inl rfl | exact .inr rfl) (sl := [6, 7]) (by decide)) mgs_nil rfl) rfl) rfl rfl)) (fun _ _ _ _ _ => mts_nil) (fun _ _ _ _ _ => (me_var rfl (by first | exact .inl rfl | exact .inr (.inl rfl) | exact .inr (.inr rfl)) rfl rfl)) (fun _ _ _ _ _ => (me_var rfl (by first | exact .inl rfl | exact .inr (.inl rfl) | exact .inr (.inr rfl)) rfl rfl)) (fun _ => rfl)) (a_most Z) rfl) (ms_cons (ms_fld (me_var rfl (by first | exact .inl rfl | exact .inr (.inl rfl) | exact .inr (.inr rfl)) rfl rfl) (me_dc (own := [("item", 8), ("some", 9)]) hr.hu rfl nd_Shelf_init (mi_items (me_var rfl (by first | exact .inl rfl | exact .inr (.inl rfl) | exact .inr (.inr rfl)) rfl rfl)) (blk_mk rfl (by rfl)) rfl (fun _ _ _ _ _ => (mg_tup rfl (mgs_cons (mg_name nd_Shelf_init rfl (by first | exact .inl rfl | exact .inr rfl) (by first | exact .inl rfl | exact .inr rfl) (sl := [8, 9]) (by decide)) (mgs_cons (mg_name nd_Shelf_init rfl (by first | exact .inl rfl | exact .inr rfl) (by first | exact .inl rfl | exact .inr rfl) (sl := [8, 9]) (by decide)) mgs_nil rfl) rfl) rfl rfl)) (fun _ _ _ _ _ => (mts_one (mt_cmpW (mo_neB hr.hu) (me_var rfl (by first | exact .inl rfl | exact .inr (.inl rfl) | exact .inr (.inr rfl)) rfl rfl) (me_tup ma_nil) rfl))) (fun _ _ _ _ _ => (me_var rfl (by first | exact .inl rfl | exact .inr (.inl rfl) | exact .inr (.inr rfl)) rfl rfl)) (fun _ _ _ _ _ => (me_var rfl (by first | exact .inl rfl | exact .inr (.inl rfl) | exact .inr (.inr rfl)) rfl rfl)) (fun _ => rfl)) (a_wants Z) rfl) (ms_cons (ms_fld (me_var rfl (by first | exact .inl rfl | exact .inr (.inl rfl) | exact .inr (.inr rfl)) rfl rfl) (me_bi (mc_sorted hr.hu) rfl (f_sorted Z) rfl (ma_cons (me_bt (mc_list rfl) rfl (f_list Z) rfl (ma_cons (me_dc (own := [("pair", 12)]) hr.hu rfl nd_Shelf_init (mi_any (me_var rfl (by first | exact .inl rfl | exact .inr (.inl rfl) | exact .inr (.inr rfl)) rfl rfl)) (blk_mk rfl (by rfl)) rfl (fun _ _ _ _ _ => (mg_name nd_Shelf_init rfl (by first | exact .inl rfl | exact .inr rfl) (by first | exact .inl rfl | exact .inr rfl) (sl := [12]) (by decide))) (fun _ _ _ _ _ => mts_nil) (fun _ _ _ _ _ => (me_bt mc_tuple rfl (f_tuple Z) rfl (ma_cons (me_bi (mc_sorted hr.hu) rfl (f_sorted Z) rfl (ma_cons (me_bt (mc_list rfl) rfl (f_list Z) rfl (ma_cons (me_var rfl (by first | exact .inl rfl | exact .inr (.inl rfl) | exact .inr (.inr rfl)) rfl rfl) ma_nil rfl)) ma_nil rfl)) ma_nil rfl))) (fun _ _ _ _ _ => me_bl) (fun _ => rfl)) ma_nil rfl)) ma_nil rfl)) (a_clashes Z) rfl) (ms_cons (ms_fld (me_var rfl (by first | exact .inl rfl | exact .inr (.inl rfl) | exact .inr (.inr rfl)) rfl rfl) (me_bt (mc_list rfl) rfl (f_list Z) rfl (ma_cons (me_var rfl (by first | exact .inl rfl | exact .inr (.inl rfl) | exact .inr (.inr rfl)) rfl rfl) ma_nil rfl)) (a_asked Z) rfl) (ms_cons (ms_fld (me_var rfl (by first | exact .inl rfl | exact .inr (.inl rfl) | exact .inr (.inr rfl)) rfl rfl) (me_dc (own := [("name", 6), ("bound", 10)]) hr.hu rfl nd_Shelf_init (mi_items (me_var rfl (by first | exact .inl rfl | exact .inr (.inl rfl) | exact .inr (.inr rfl)) rfl rfl)) (blk_mk rfl (by rfl)) rfl (fun _ _ _ _ _ => (mg_tup rfl (mgs_cons (mg_name nd_Shelf_init rfl (by first | exact .inl rfl | exact .inr rfl) (by first | exact .inl rfl | exact .inr rfl) (sl := [6, 10]) (by decide)) (mgs_cons (mg_name nd_Shelf_init rfl (by first | exact .inl rfl | exact .inr rfl) (by first | exact .inl rfl | exact .inr rfl) (sl := [6, 10]) (by decide)) mgs_nil rfl) rfl) rfl rfl)) (fun _ _ _ _ _ => mts_nil) (fun _ _ _ _ _ => (me_var rfl (by first | exact .inl rfl | exact .inr (.inl rfl) | exact .inr (.inr rfl)) rfl rfl)) (fun _ _ _ _ _ => (me_var rfl (by first | exact .inl rfl | exact .inr (.inl rfl) | exact .inr (.inr rfl)) rfl rfl)) (fun _ => rfl)) (a_lines Z) rfl) ms_nil))))))))))))
theorem nd__law_shelf : (["_law_drawn_here", "_law_lines", "_law_name", "_law_one", "_law_other", "_law_worth"] : List Str).Nodup := by decide +kernel
theorem sc__law_shelf : FnScope ["_law_drawn_here", "_law_lines", "_law_name", "_law_one", "_law_other", "_law_worth"] ["_law_drawn_here"] (defScope (top 36)) := ⟨rfl, rfl, rfl, by decide +kernel, rfl, by decide +kernel, by decide +kernel⟩
theorem k__law_shelf {w : World} {K : PySem.W.Frag} {mg : Str -> Option Value} {base : Heap} {a : AdP} (Z : Hd K mg base) : Cal P w K mg base (adr K a) (He.ga K "_law_shelf") 6 m__law_shelf [] := by
  obtain ⟨fd, F⟩ := Z.c.def_ 21 (d := dd__law_shelf) rfl
  refine ⟨⟨fd, ["_law_drawn_here"], [], fn_rs (fn_m F sc__law_shelf rfl rfl (fun cdv A outer s H E hr => ?_)), (F.bindsN (ps := ["_law_drawn_here"]) (fun _ _ _ _ _ _ us hl => match us, hl with | [_], _ => rfl)), Dfl.nil⟩, F.kp⟩
  exact (ms_cons (ms_set nd__law_shelf (i := 1) rfl (by first | exact .inl rfl | exact .inr rfl) me_dict0B rfl (.inl rfl)) (ms_cons (ms_for (passes_of rfl) rfl (mi_any (me_ix hr.hu (me_var rfl (by first | exact .inl rfl | exact .inr (.inl rfl) | exact .inr (.inr rfl)) rfl rfl) me_int (fun _ _ => rfl))) (mg_name nd__law_shelf rfl (by first | exact .inl rfl | exact .inr rfl) (.inl rfl) (sl := [2]) (by decide)) (ms_cons (ms_asg (me_ix hr.hu (me_ix hr.hu (me_var rfl (by first | exact .inl rfl | exact .inr (.inl rfl) | exact .inr (.inr rfl)) rfl rfl) me_int (fun _ _ => rfl)) (me_var rfl (by first | exact .inl rfl | exact .inr (.inl rfl) | exact .inr (.inr rfl)) rfl rfl) (fun _ _ => rfl)) (mg_tup rfl (mgs_cons (mg_name nd__law_shelf rfl (by first | exact .inl rfl | exact .inr rfl) (.inl rfl) (sl := [3, 4, 5]) (by decide)) (mgs_cons (mg_name nd__law_shelf rfl (by first | exact .inl rfl | exact .inr rfl) (.inl rfl) (sl := [3, 4, 5]) (by decide)) (mgs_cons (mg_name nd__law_shelf rfl (by first | exact .inl rfl | exact .inr rfl) (.inl rfl) (sl := [3, 4, 5]) (by decide)) mgs_nil rfl) rfl) rfl) rfl rfl) rfl rfl rfl) (ms_cons (ms_put hr.hu (me_var rfl (by first | exact .inl rfl | exact .inr (.inl rfl) | exact .inr (.inr rfl)) rfl rfl) (me_var rfl (by first | exact .inl rfl | exact .inr (.inl rfl) | exact .inr (.inr rfl)) rfl rfl) (me_rs (me_mkK (ks := ["cost"]) (fr := true) (mk_Bound Z) (kk_Bound_init Z) (hr.mono (by omega)) rfl (g_Bound Z) (L2N.takes_of rfl rfl rfl rfl) (ma_cons (me_ix hr.hu (me_var rfl (by first | exact .inl rfl | exact .inr (.inl rfl) | exact .inr (.inr rfl)) rfl rfl) me_int (fun _ _ => rfl)) (ma_cons (me_ix hr.hu (me_var rfl (by first | exact .inl rfl | exact .inr (.inl rfl) | exact .inr (.inr rfl)) rfl rfl) me_int (fun _ _ => rfl)) (ma_cons (me_ix hr.hu (me_var rfl (by first | exact .inl rfl | exact .inr (.inl rfl) | exact .inr (.inr rfl)) rfl rfl) me_int (fun _ _ => rfl)) (ma_cons (me_ix hr.hu (me_var rfl (by first | exact .inl rfl | exact .inr (.inl rfl) | exact .inr (.inr rfl)) rfl rfl) me_int (fun _ _ => rfl)) ma_nil rfl) rfl) rfl) rfl) (mk_cons (me_var rfl (by first | exact .inl rfl | exact .inr (.inl rfl) | exact .inr (.inr rfl)) rfl rfl) mk_nil) rfl rfl rfl rfl rfl)) rfl) ms_nil)) (fun _ => rfl)) (ms_frz (i := 1) (ms_cons (ms_ret (me_rs (me_mk (fr := true) (mk_Shelf Z) (k_Shelf_init Z) (hr.mono (by omega)) rfl (g_Shelf Z) (L2N.takes_of rfl rfl rfl rfl) (ma_cons (me_ix hr.hu (me_var rfl (by first | exact .inl rfl | exact .inr (.inl rfl) | exact .inr (.inr rfl)) rfl rfl) me_int (fun _ _ => rfl)) (ma_cons (me_ix hr.hu (me_var rfl (by first | exact .inl rfl | exact .inr (.inl rfl) | exact .inr (.inr rfl)) rfl rfl) me_int (fun _ _ => rfl)) (ma_cons (me_ix hr.hu (me_var rfl (by first | exact .inl rfl | exact .inr (.inl rfl) | exact .inr (.inr rfl)) rfl rfl) me_int (fun _ _ => rfl)) (ma_cons (me_ix hr.hu (me_var rfl (by first | exact .inl rfl | exact .inr (.inl rfl) | exact .inr (.inr rfl)) rfl rfl) me_int (fun _ _ => rfl)) (ma_cons (me_var rfl (by first | exact .inl rfl | exact .inr (.inl rfl) | exact .inr (.inr rfl)) rfl rfl) ma_nil rfl) rfl) rfl) rfl) rfl) rfl rfl rfl))) ms_nil))))
theorem nd_Shelf_packages : (["self", "name", "count"] : List Str).Nodup := by decide +kernel
theorem sc_Shelf_packages : FnScope ["self", "name", "count"] ["self"] (defScope (mth 24 7)) := ⟨rfl, rfl, rfl, by decide +kernel, rfl, by decide +kernel, by decide +kernel⟩
theorem k_Shelf_packages {w : World} {K : PySem.W.Frag} {mg : Str -> Option Value} {base : Heap} {a : AdP} (Z : Hd K mg base) : Cal P w K mg base (adr K a) (pg K ("Shelf", some "packages")) 1 m_Shelf_packages [] := by
  obtain ⟨fd, F⟩ := Z.p.def_ 0 (d := dd_Shelf_packages) rfl
  refine ⟨⟨fd, ["self"], [], fn_rs (fn_m F sc_Shelf_packages rfl rfl (fun cdv A outer s H E hr => ?_)), (F.bindsN (ps := ["self"]) (fun _ _ _ _ _ _ us hl => match us, hl with | [_], _ => rfl)), Dfl.nil⟩, F.kp⟩
  exact (ms_cons (ms_ret (me_dc (own := [("name", 1), ("count", 2)]) hr.hu rfl nd_Shelf_packages (mi_items (me_fld (me_var rfl (by first | exact .inl rfl | exact .inr (.inl rfl) | exact .inr (.inr rfl)) rfl rfl) (a_most Z) rfl)) (blk_mk rfl (by rfl)) rfl (fun _ _ _ _ _ => (mg_tup rfl (mgs_cons (mg_name nd_Shelf_packages rfl (by first | exact .inl rfl | exact .inr rfl) (by first | exact .inl rfl | exact .inr rfl) (sl := [1, 2]) (by decide)) (mgs_cons (mg_name nd_Shelf_packages rfl (by first | exact .inl rfl | exact .inr rfl) (by first | exact .inl rfl | exact .inr rfl) (sl := [1, 2]) (by decide)) mgs_nil rfl) rfl) rfl rfl)) (fun _ _ _ _ _ => mts_nil) (fun _ _ _ _ _ => (me_var rfl (by first | exact .inl rfl | exact .inr (.inl rfl) | exact .inr (.inr rfl)) rfl rfl)) (fun _ _ _ _ _ => (me_var rfl (by first | exact .inl rfl | exact .inr (.inl rfl) | exact .inr (.inr rfl)) rfl rfl)) (fun _ => rfl))) ms_nil)
theorem sc_Shelf_requests : FnScope ["self"] ["self"] (defScope (mth 24 8)) := ⟨rfl, rfl, rfl, by decide +kernel, rfl, by decide +kernel, by decide +kernel⟩
theorem k_Shelf_requests {w : World} {K : PySem.W.Frag} {mg : Str -> Option Value} {base : Heap} {a : AdP} (Z : Hd K mg base) : Cal P w K mg base (adr K a) (pg K ("Shelf", some "requests")) 1 m_Shelf_requests [] := by
  obtain ⟨fd, F⟩ := Z.p.def_ 1 (d := dd_Shelf_requests) rfl
  refine ⟨⟨fd, ["self"], [], fn_rs (fn_m F sc_Shelf_requests rfl rfl (fun cdv A outer s H E hr => ?_)), (F.bindsN (ps := ["self"]) (fun _ _ _ _ _ _ us hl => match us, hl with | [_], _ => rfl)), Dfl.nil⟩, F.kp⟩
  exact (ms_cons (ms_ret (me_bt (mc_list rfl) rfl (f_list Z) rfl (ma_cons (me_fld (me_var rfl (by first | exact .inl rfl | exact .inr (.inl rfl) | exact .inr (.inr rfl)) rfl rfl) (a_asked Z) rfl) ma_nil rfl))) ms_nil)
theorem sc_Shelf_names : FnScope ["self"] ["self"] (defScope (mth 24 9)) := ⟨rfl, rfl, rfl, by decide +kernel, rfl, by decide +kernel, by decide +kernel⟩
theorem k_Shelf_names {w : World} {K : PySem.W.Frag} {mg : Str -> Option Value} {base : Heap} {a : AdP} (Z : Hd K mg base) : Cal P w K mg base (adr K a) (pg K ("Shelf", some "names")) 1 m_Shelf_names [] := by
  obtain ⟨fd, F⟩ := Z.p.def_ 2 (d := dd_Shelf_names) rfl
  refine ⟨⟨fd, ["self"], [], fn_rs (fn_m F sc_Shelf_names rfl rfl (fun cdv A outer s H E hr => ?_)), (F.bindsN (ps := ["self"]) (fun _ _ _ _ _ _ us hl => match us, hl with | [_], _ => rfl)), Dfl.nil⟩, F.kp⟩
  exact (ms_cons (ms_ret (me_bt (mc_list rfl) rfl (f_list Z) rfl (ma_cons (me_fld (me_var rfl (by first | exact .inl rfl | exact .inr (.inl rfl) | exact .inr (.inr rfl)) rfl rfl) (a_lines Z) rfl) ma_nil rfl))) ms_nil)
theorem sc_needed : FnScope ["shelf", "item"] ["shelf", "item"] (defScope (top 25)) := ⟨rfl, rfl, rfl, by decide +kernel, rfl, by decide +kernel, by decide +kernel⟩
theorem k_needed {w : World} {K : PySem.W.Frag} {mg : Str -> Option Value} {base : Heap} {a : AdP} (Z : Hd K mg base) : Cal P w K mg base (adr K a) (He.ga K "needed") 1 m_needed [] := by
  obtain ⟨fd, F⟩ := Z.c.def_ 22 (d := dd_needed) rfl
  refine ⟨⟨fd, ["shelf", "item"], [], fn_rs (fn_m F sc_needed rfl rfl (fun cdv A outer s H E hr => ?_)), (F.bindsN (ps := ["shelf", "item"]) (fun _ _ _ _ _ _ us hl => match us, hl with | [_, _], _ => rfl)), Dfl.nil⟩, F.kp⟩
  exact (ms_cons (ms_ret (me_bm PySem.F.plainAttrs_dict PySem.F.slot_dict_get PySem.F.type_dict_get (mt_getW hr.hu) ty_dict (me_fld (me_var rfl (by first | exact .inl rfl | exact .inr (.inl rfl) | exact .inr (.inr rfl)) rfl rfl) (a_wants Z) rfl) (ma_cons (me_var rfl (by first | exact .inl rfl | exact .inr (.inl rfl) | exact .inr (.inr rfl)) rfl rfl) (ma_cons (me_tup ma_nil) ma_nil rfl) rfl))) ms_nil)
theorem sc_Shelf_needs : FnScope ["self", "item"] ["self", "item"] (defScope (mth 24 10)) := ⟨rfl, rfl, rfl, by decide +kernel, rfl, by decide +kernel, by decide +kernel⟩
theorem k_Shelf_needs {w : World} {K : PySem.W.Frag} {mg : Str -> Option Value} {base : Heap} {a : AdP} (Z : Hd K mg base) : Cal P w K mg base (adr K a) (He.ma K (He.ga K "Shelf") "needs") 3 m_Shelf_needs [] := by
  obtain ⟨fd, F⟩ := Z.c.def_ 23 (d := dd_Shelf_needs) rfl
  refine ⟨⟨fd, ["self", "item"], [], fn_rs (fn_m F sc_Shelf_needs rfl rfl (fun cdv A outer s H E hr => ?_)), (F.bindsN (ps := ["self", "item"]) (fun _ _ _ _ _ _ us hl => match us, hl with | [_, _], _ => rfl)), Dfl.nil⟩, F.kp⟩
  exact (ms_cons (ms_if (mt_not (mt_val (me_cal (k_is_item Z) (hr.mono (by omega)) rfl (g_is_item Z) (L2N.takes_of rfl rfl rfl rfl) (ma_cons (me_fld (me_var rfl (by first | exact .inl rfl | exact .inr (.inl rfl) | exact .inr (.inr rfl)) rfl rfl) (a_most Z) rfl) (ma_cons (me_var rfl (by first | exact .inl rfl | exact .inr (.inl rfl) | exact .inr (.inr rfl)) rfl rfl) ma_nil rfl) rfl) rfl rfl rfl) (fun _ => rfl))) (ms_cons ms_never ms_nil) ms_nil) (ms_cons (ms_ret (me_cal (k_needed Z) (hr.mono (by omega)) rfl (g_needed Z) (L2N.takes_of rfl rfl rfl rfl) (ma_cons (me_var rfl (by first | exact .inl rfl | exact .inr (.inl rfl) | exact .inr (.inr rfl)) rfl rfl) (ma_cons (me_var rfl (by first | exact .inl rfl | exact .inr (.inl rfl) | exact .inr (.inr rfl)) rfl rfl) ma_nil rfl) rfl) rfl rfl rfl)) ms_nil))
theorem sc_Shelf___getitem__ : FnScope ["self", "at"] ["self", "at"] (defScope (mth 24 4)) := ⟨rfl, rfl, rfl, by decide +kernel, rfl, by decide +kernel, by decide +kernel⟩
theorem k_Shelf___getitem__ {w : World} {K : PySem.W.Frag} {mg : Str -> Option Value} {base : Heap} {a : AdP} (Z : Hd K mg base) : Cal P w K mg base (adr K a) (He.ma K (He.ga K "Shelf") "__getitem__") 1 m_Shelf___getitem__ [] := by
  obtain ⟨fd, F⟩ := Z.c.def_ 24 (d := dd_Shelf___getitem__) rfl
  refine ⟨⟨fd, ["self", "at"], [], fn_rs (fn_m F sc_Shelf___getitem__ rfl rfl (fun cdv A outer s H E hr => ?_)), (F.bindsN (ps := ["self", "at"]) (fun _ _ _ _ _ _ us hl => match us, hl with | [_, _], _ => rfl)), Dfl.nil⟩, F.kp⟩
  exact (ms_cons (ms_if (MW.mt (mw_or (mt_not (mt_val (me_bi (mc_isi (isf Z)) rfl (f_isinstance Z) rfl (ma_cons (me_var rfl (by first | exact .inl rfl | exact .inr (.inl rfl) | exact .inr (.inr rfl)) rfl rfl) (ma_cons (me_ty (n := 1) rfl (f_str Z) rfl) ma_nil rfl) rfl)) (fun _ => rfl))) (mw_or1 (mt_cmpW (mo_notIn hr.hu) (me_var rfl (by first | exact .inl rfl | exact .inr (.inl rfl) | exact .inr (.inr rfl)) rfl rfl) (me_fld (me_var rfl (by first | exact .inl rfl | exact .inr (.inl rfl) | exact .inr (.inr rfl)) rfl rfl) (a_lines Z) rfl) rfl)))) (ms_cons ms_never ms_nil) ms_nil) (ms_cons (ms_ret (me_ix hr.hu (me_fld (me_var rfl (by first | exact .inl rfl | exact .inr (.inl rfl) | exact .inr (.inr rfl)) rfl rfl) (a_lines Z) rfl) (me_var rfl (by first | exact .inl rfl | exact .inr (.inl rfl) | exact .inr (.inr rfl)) rfl rfl) (fun _ _ => rfl))) ms_nil))
theorem q_Shelf___getitem__ {X : Cx} {a : AdP} (Z : Hd X.K X.mg X.base) (hP : X.prog = P := by rfl) : Owns X (adr X.K a) 1 "__getitem__" mq__getitem___Shelf := fun c mf e => by
  unfold mq__getitem___Shelf at e
  split at e
  · rename_i h
    obtain rfl := Nat.eq_of_beq_eq_true h
    cases e
    exact ⟨_, by rw [hP]; exact k_Shelf___getitem__ (a := ⟨a.en, a.cv, false⟩) Z, Meth.own (t_Shelf___getitem__ Z)⟩
  · cases e
theorem i_Shelf___getitem__ {X : Cx} (Z : Hd X.K X.mg X.base) : ∀ c mf, mq__getitem___Shelf c = some mf -> ∀ f, PySem.W.findIn X.K (.ref (ga X.K c)) "__getitem__" = some (some (.ref f)) -> PySem.W.fnIn X.K f = true := fun c mf e f hf => by
  unfold mq__getitem___Shelf at e
  split at e
  · rename_i h
    obtain rfl := Nat.eq_of_beq_eq_true h
    have e2 := (t_Shelf___getitem__ Z).at_.symm.trans hf
    cases e2
    exact i0_Shelf Z
  · cases e
theorem sc_Bound_versions : FnScope ["self"] ["self"] (defScope (mth 16 4)) := ⟨rfl, rfl, rfl, by decide +kernel, rfl, by decide +kernel, by decide +kernel⟩
theorem k_Bound_versions {w : World} {K : PySem.W.Frag} {mg : Str -> Option Value} {base : Heap} {a : AdP} (Z : Hd K mg base) : Cal P w K mg base (adr K a) (pg K ("Bound", some "versions")) 1 m_Bound_versions [] := by
  obtain ⟨fd, F⟩ := Z.p.def_ 3 (d := dd_Bound_versions) rfl
  refine ⟨⟨fd, ["self"], [], fn_rs (fn_m F sc_Bound_versions rfl rfl (fun cdv A outer s H E hr => ?_)), (F.bindsN (ps := ["self"]) (fun _ _ _ _ _ _ us hl => match us, hl with | [_], _ => rfl)), Dfl.nil⟩, F.kp⟩
  exact (ms_cons (ms_ret (me_ix hr.hu (me_ix hr.hu (me_fld (me_var rfl (by first | exact .inl rfl | exact .inr (.inl rfl) | exact .inr (.inr rfl)) rfl rfl) (a_sides Z) rfl) me_int (fun _ _ => rfl)) me_int (fun _ _ => rfl))) ms_nil)
theorem sc_Bound_first : FnScope ["self"] ["self"] (defScope (mth 16 3)) := ⟨rfl, rfl, rfl, by decide +kernel, rfl, by decide +kernel, by decide +kernel⟩
theorem k_Bound_first {w : World} {K : PySem.W.Frag} {mg : Str -> Option Value} {base : Heap} {a : AdP} (Z : Hd K mg base) : Cal P w K mg base (adr K a) (pg K ("Bound", some "first")) 1 m_Bound_first [] := by
  obtain ⟨fd, F⟩ := Z.p.def_ 4 (d := dd_Bound_first) rfl
  refine ⟨⟨fd, ["self"], [], fn_rs (fn_m F sc_Bound_first rfl rfl (fun cdv A outer s H E hr => ?_)), (F.bindsN (ps := ["self"]) (fun _ _ _ _ _ _ us hl => match us, hl with | [_], _ => rfl)), Dfl.nil⟩, F.kp⟩
  exact (ms_cons (ms_ret (me_ix hr.hu (me_ix hr.hu (me_fld (me_var rfl (by first | exact .inl rfl | exact .inr (.inl rfl) | exact .inr (.inr rfl)) rfl rfl) (a_sides Z) rfl) me_int (fun _ _ => rfl)) me_int (fun _ _ => rfl))) ms_nil)
theorem sc_Bound_others : FnScope ["self"] ["self"] (defScope (mth 16 6)) := ⟨rfl, rfl, rfl, by decide +kernel, rfl, by decide +kernel, by decide +kernel⟩
theorem k_Bound_others {w : World} {K : PySem.W.Frag} {mg : Str -> Option Value} {base : Heap} {a : AdP} (Z : Hd K mg base) : Cal P w K mg base (adr K a) (pg K ("Bound", some "others")) 1 m_Bound_others [] := by
  obtain ⟨fd, F⟩ := Z.p.def_ 5 (d := dd_Bound_others) rfl
  refine ⟨⟨fd, ["self"], [], fn_rs (fn_m F sc_Bound_others rfl rfl (fun cdv A outer s H E hr => ?_)), (F.bindsN (ps := ["self"]) (fun _ _ _ _ _ _ us hl => match us, hl with | [_], _ => rfl)), Dfl.nil⟩, F.kp⟩
  exact (ms_cons (ms_ret (me_ix hr.hu (me_ix hr.hu (me_fld (me_var rfl (by first | exact .inl rfl | exact .inr (.inl rfl) | exact .inr (.inr rfl)) rfl rfl) (a_sides Z) rfl) me_int (fun _ _ => rfl)) me_int (fun _ _ => rfl))) ms_nil)
theorem sc_Bound_second : FnScope ["self"] ["self"] (defScope (mth 16 5)) := ⟨rfl, rfl, rfl, by decide +kernel, rfl, by decide +kernel, by decide +kernel⟩
theorem k_Bound_second {w : World} {K : PySem.W.Frag} {mg : Str -> Option Value} {base : Heap} {a : AdP} (Z : Hd K mg base) : Cal P w K mg base (adr K a) (pg K ("Bound", some "second")) 1 m_Bound_second [] := by
  obtain ⟨fd, F⟩ := Z.p.def_ 6 (d := dd_Bound_second) rfl
  refine ⟨⟨fd, ["self"], [], fn_rs (fn_m F sc_Bound_second rfl rfl (fun cdv A outer s H E hr => ?_)), (F.bindsN (ps := ["self"]) (fun _ _ _ _ _ _ us hl => match us, hl with | [_], _ => rfl)), Dfl.nil⟩, F.kp⟩
  exact (ms_cons (ms_ret (me_ix hr.hu (me_ix hr.hu (me_fld (me_var rfl (by first | exact .inl rfl | exact .inr (.inl rfl) | exact .inr (.inr rfl)) rfl rfl) (a_sides Z) rfl) me_int (fun _ _ => rfl)) me_int (fun _ _ => rfl))) ms_nil)
theorem sc_Bound_cost : FnScope ["self"] ["self"] (defScope (mth 16 7)) := ⟨rfl, rfl, rfl, by decide +kernel, rfl, by decide +kernel, by decide +kernel⟩
theorem k_Bound_cost {w : World} {K : PySem.W.Frag} {mg : Str -> Option Value} {base : Heap} {a : AdP} (Z : Hd K mg base) : Cal P w K mg base (adr K a) (pg K ("Bound", some "cost")) 1 m_Bound_cost [] := by
  obtain ⟨fd, F⟩ := Z.p.def_ 7 (d := dd_Bound_cost) rfl
  refine ⟨⟨fd, ["self"], [], fn_rs (fn_m F sc_Bound_cost rfl rfl (fun cdv A outer s H E hr => ?_)), (F.bindsN (ps := ["self"]) (fun _ _ _ _ _ _ us hl => match us, hl with | [_], _ => rfl)), Dfl.nil⟩, F.kp⟩
  exact (ms_cons (ms_ret (me_fld (me_var rfl (by first | exact .inl rfl | exact .inr (.inl rfl) | exact .inr (.inr rfl)) rfl rfl) (a_charge Z) rfl)) ms_nil)
theorem sc_Bound___neg__ : FnScope ["self"] ["self"] (defScope (mth 16 2)) := ⟨rfl, rfl, rfl, by decide +kernel, rfl, by decide +kernel, by decide +kernel⟩
theorem k_Bound___neg__ {w : World} {K : PySem.W.Frag} {mg : Str -> Option Value} {base : Heap} {a : AdP} (Z : Hd K mg base) : Cal P w K mg base (adr K a) (He.ma K (He.ga K "Bound") "__neg__") 5 m_Bound___neg__ [] := by
  obtain ⟨fd, F⟩ := Z.c.def_ 25 (d := dd_Bound___neg__) rfl
  refine ⟨⟨fd, ["self"], [], fn_rs (fn_m F sc_Bound___neg__ rfl rfl (fun cdv A outer s H E hr => ?_)), (F.bindsN (ps := ["self"]) (fun _ _ _ _ _ _ us hl => match us, hl with | [_], _ => rfl)), Dfl.nil⟩, F.kp⟩
  exact (ms_cons (ms_ret (me_rs (me_mkK (ks := ["cost"]) (fr := true) (mk_Bound Z) (kk_Bound_init Z) (hr.mono (by omega)) rfl (g_Bound Z) (L2N.takes_of rfl rfl rfl rfl) (ma_cons (me_ix hr.hu (me_ix hr.hu (me_fld (me_var rfl (by first | exact .inl rfl | exact .inr (.inl rfl) | exact .inr (.inr rfl)) rfl rfl) (a_sides Z) rfl) me_int (fun _ _ => rfl)) me_int (fun _ _ => rfl)) (ma_cons (me_ix hr.hu (me_ix hr.hu (me_fld (me_var rfl (by first | exact .inl rfl | exact .inr (.inl rfl) | exact .inr (.inr rfl)) rfl rfl) (a_sides Z) rfl) me_int (fun _ _ => rfl)) me_int (fun _ _ => rfl)) (ma_cons (me_ix hr.hu (me_ix hr.hu (me_fld (me_var rfl (by first | exact .inl rfl | exact .inr (.inl rfl) | exact .inr (.inr rfl)) rfl rfl) (a_sides Z) rfl) me_int (fun _ _ => rfl)) me_int (fun _ _ => rfl)) (ma_cons (me_ix hr.hu (me_ix hr.hu (me_fld (me_var rfl (by first | exact .inl rfl | exact .inr (.inl rfl) | exact .inr (.inr rfl)) rfl rfl) (a_sides Z) rfl) me_int (fun _ _ => rfl)) me_int (fun _ _ => rfl)) ma_nil rfl) rfl) rfl) rfl) (mk_cons (me_fld (me_var rfl (by first | exact .inl rfl | exact .inr (.inl rfl) | exact .inr (.inr rfl)) rfl rfl) (a_charge Z) rfl) mk_nil) rfl rfl rfl rfl rfl))) ms_nil)
theorem q_Bound___neg__ {X : Cx} {a : AdP} (Z : Hd X.K X.mg X.base) (hP : X.prog = P := by rfl) : Owns X (adr X.K a) 5 "__neg__" mq__neg___Bound := fun c mf e => by
  unfold mq__neg___Bound at e
  split at e
  · rename_i h
    obtain rfl := Nat.eq_of_beq_eq_true h
    cases e
    exact ⟨_, by rw [hP]; exact k_Bound___neg__ (a := ⟨a.en, a.cv, false⟩) Z, Meth.own (t_Bound___neg__ Z)⟩
  · cases e
theorem sc_Bound___eq__ : FnScope ["self", "other"] ["self", "other"] (defScope (mth 16 1)) := ⟨rfl, rfl, rfl, by decide +kernel, rfl, by decide +kernel, by decide +kernel⟩
theorem k_Bound___eq__ {w : World} {K : PySem.W.Frag} {mg : Str -> Option Value} {base : Heap} {a : AdP} (Z : Hd K mg base) : Cal P w K mg base (adr K a) (He.ma K (He.ga K "Bound") "__eq__") 1 m_Bound___eq__ [] := by
  obtain ⟨fd, F⟩ := Z.c.def_ 26 (d := dd_Bound___eq__) rfl
  refine ⟨⟨fd, ["self", "other"], [], fn_rs (fn_m F sc_Bound___eq__ rfl rfl (fun cdv A outer s H E hr => ?_)), (F.bindsN (ps := ["self", "other"]) (fun _ _ _ _ _ _ us hl => match us, hl with | [_, _], _ => rfl)), Dfl.nil⟩, F.kp⟩
  exact (ms_cons (ms_ret (me_and (me_bi (mc_isi (isf Z)) rfl (f_isinstance Z) rfl (ma_cons (me_var rfl (by first | exact .inl rfl | exact .inr (.inl rfl) | exact .inr (.inr rfl)) rfl rfl) (ma_cons (me_cls (c := 0) rfl (g_Bound Z)) ma_nil rfl) rfl)) (me_and (me_cmpW (mo_eqB hr.hu) (me_fld (me_var rfl (by first | exact .inl rfl | exact .inr (.inl rfl) | exact .inr (.inr rfl)) rfl rfl) (a_sides Z) rfl) (me_fld (me_var rfl (by first | exact .inl rfl | exact .inr (.inl rfl) | exact .inr (.inr rfl)) rfl rfl) (a_sides Z) rfl) rfl) (me_one (me_cmpW (mo_eqB hr.hu) (me_fld (me_var rfl (by first | exact .inl rfl | exact .inr (.inl rfl) | exact .inr (.inr rfl)) rfl rfl) (a_charge Z) rfl) (me_fld (me_var rfl (by first | exact .inl rfl | exact .inr (.inl rfl) | exact .inr (.inr rfl)) rfl rfl) (a_charge Z) rfl) rfl))))) ms_nil)
theorem q_Bound___eq__ {X : Cx} {a : AdP} (Z : Hd X.K X.mg X.base) (hP : X.prog = P := by rfl) : Owns X (adr X.K a) 1 "__eq__" mq__eq___Bound := fun c mf e => by
  unfold mq__eq___Bound at e
  split at e
  · rename_i h
    obtain rfl := Nat.eq_of_beq_eq_true h
    cases e
    exact ⟨_, by rw [hP]; exact k_Bound___eq__ (a := ⟨a.en, a.cv, false⟩) Z, Meth.own (t_Bound___eq__ Z)⟩
  · cases e
theorem sc_Shelf___contains__ : FnScope ["self", "x"] ["self", "x"] (defScope (mth 24 3)) := ⟨rfl, rfl, rfl, by decide +kernel, rfl, by decide +kernel, by decide +kernel⟩
theorem k_Shelf___contains__ {w : World} {K : PySem.W.Frag} {mg : Str -> Option Value} {base : Heap} {a : AdP} (Z : Hd K mg base) : Cal P w K mg base (adr K a) (He.ma K (He.ga K "Shelf") "__contains__") 1 m_Shelf___contains__ [] := by
  obtain ⟨fd, F⟩ := Z.c.def_ 27 (d := dd_Shelf___contains__) rfl
  refine ⟨⟨fd, ["self", "x"], [], fn_rs (fn_m F sc_Shelf___contains__ rfl rfl (fun cdv A outer s H E hr => ?_)), (F.bindsN (ps := ["self", "x"]) (fun _ _ _ _ _ _ us hl => match us, hl with | [_, _], _ => rfl)), Dfl.nil⟩, F.kp⟩
  exact (ms_cons (ms_ret (me_and (me_bi (mc_isi (isf Z)) rfl (f_isinstance Z) rfl (ma_cons (me_var rfl (by first | exact .inl rfl | exact .inr (.inl rfl) | exact .inr (.inr rfl)) rfl rfl) (ma_cons (me_ty (n := 1) rfl (f_str Z) rfl) ma_nil rfl) rfl)) (me_one (me_cmpW (mo_in hr.hu) (me_var rfl (by first | exact .inl rfl | exact .inr (.inl rfl) | exact .inr (.inr rfl)) rfl rfl) (me_fld (me_var rfl (by first | exact .inl rfl | exact .inr (.inl rfl) | exact .inr (.inr rfl)) rfl rfl) (a_lines Z) rfl) rfl)))) ms_nil)
theorem q_Shelf___contains__ {X : Cx} {a : AdP} (Z : Hd X.K X.mg X.base) (hP : X.prog = P := by rfl) : Owns X (adr X.K a) 1 "__contains__" mq__contains___Shelf := fun c mf e => by
  unfold mq__contains___Shelf at e
  split at e
  · rename_i h
    obtain rfl := Nat.eq_of_beq_eq_true h
    cases e
    exact ⟨_, by rw [hP]; exact k_Shelf___contains__ (a := ⟨a.en, a.cv, false⟩) Z, Meth.own (t_Shelf___contains__ Z)⟩
  · cases e
theorem sc_Shelf_all_parts : FnScope ["self"] ["self"] (defScope (mth 24 2)) := ⟨rfl, rfl, rfl, by decide +kernel, rfl, by decide +kernel, by decide +kernel⟩
theorem k_Shelf_all_parts {w : World} {K : PySem.W.Frag} {mg : Str -> Option Value} {base : Heap} {a : AdP} (Z : Hd K mg base) : Cal P w K mg base (adr K a) (He.ma K (He.ga K "Shelf") "all_parts") 1 m_Shelf_all_parts [] := by
  obtain ⟨fd, F⟩ := Z.c.def_ 28 (d := dd_Shelf_all_parts) rfl
  refine ⟨⟨fd, ["self"], [], fn_rs (fn_m F sc_Shelf_all_parts rfl rfl (fun cdv A outer s H E hr => ?_)), (F.bindsN (ps := ["self"]) (fun _ _ _ _ _ _ us hl => match us, hl with | [_], _ => rfl)), Dfl.nil⟩, F.kp⟩
  exact (ms_cons (ms_ret (me_lst (ma_cons (me_lstIt rfl (me_fld (me_var rfl (by first | exact .inl rfl | exact .inr (.inl rfl) | exact .inr (.inr rfl)) rfl rfl) (a_most Z) rfl) rfl (f_list Z)) (ma_cons (me_fld (me_var rfl (by first | exact .inl rfl | exact .inr (.inl rfl) | exact .inr (.inr rfl)) rfl rfl) (a_wants Z) rfl) (ma_cons (me_fld (me_var rfl (by first | exact .inl rfl | exact .inr (.inl rfl) | exact .inr (.inr rfl)) rfl rfl) (a_clashes Z) rfl) (ma_cons (me_fld (me_var rfl (by first | exact .inl rfl | exact .inr (.inl rfl) | exact .inr (.inr rfl)) rfl rfl) (a_asked Z) rfl) (ma_cons (me_lstIt rfl (me_fld (me_var rfl (by first | exact .inl rfl | exact .inr (.inl rfl) | exact .inr (.inr rfl)) rfl rfl) (a_lines Z) rfl) rfl (f_list Z)) ma_nil rfl) rfl) rfl) rfl) rfl))) ms_nil)
theorem sc_Shelf___eq__ : FnScope ["self", "other"] ["self", "other"] (defScope (mth 24 1)) := ⟨rfl, rfl, rfl, by decide +kernel, rfl, by decide +kernel, by decide +kernel⟩
theorem k_Shelf___eq__ {w : World} {K : PySem.W.Frag} {mg : Str -> Option Value} {base : Heap} {a : AdP} (Z : Hd K mg base) : Cal P w K mg base (adr K a) (He.ma K (He.ga K "Shelf") "__eq__") 9 m_Shelf___eq__ [] := by
  obtain ⟨fd, F⟩ := Z.c.def_ 29 (d := dd_Shelf___eq__) rfl
  refine ⟨⟨fd, ["self", "other"], [], fn_rs (fn_m F sc_Shelf___eq__ rfl rfl (fun cdv A outer s H E hr => ?_)), (F.bindsN (ps := ["self", "other"]) (fun _ _ _ _ _ _ us hl => match us, hl with | [_, _], _ => rfl)), Dfl.nil⟩, F.kp⟩
  exact (ms_cons (ms_ret (me_and (me_bi (mc_isi (isf Z)) rfl (f_isinstance Z) rfl (ma_cons (me_var rfl (by first | exact .inl rfl | exact .inr (.inl rfl) | exact .inr (.inr rfl)) rfl rfl) (ma_cons (me_cls (c := 1) rfl (g_Shelf Z)) ma_nil rfl) rfl)) (me_one (me_cmpW (mo_eqO (q_Bound___eq__ Z) (hr.mono (by omega)) hr.hu) (me_mt0 (me_var rfl (by first | exact .inl rfl | exact .inr (.inl rfl) | exact .inr (.inr rfl)) rfl rfl) (l_Shelf Z) (t_Shelf_all_parts Z) (k_Shelf_all_parts Z) (hr.mono (by omega)) (L2N.takes_of rfl rfl rfl rfl) rfl) (me_mt0 (me_var rfl (by first | exact .inl rfl | exact .inr (.inl rfl) | exact .inr (.inr rfl)) rfl rfl) (l_Shelf Z) (t_Shelf_all_parts Z) (k_Shelf_all_parts Z) (hr.mono (by omega)) (L2N.takes_of rfl rfl rfl rfl) rfl) rfl)))) ms_nil)
theorem q_Shelf___eq__ {X : Cx} {a : AdP} (Z : Hd X.K X.mg X.base) (hP : X.prog = P := by rfl) : Owns X (adr X.K a) 9 "__eq__" mq__eq___Shelf := fun c mf e => by
  unfold mq__eq___Shelf at e
  split at e
  · rename_i h
    obtain rfl := Nat.eq_of_beq_eq_true h
    cases e
    exact ⟨_, by rw [hP]; exact k_Shelf___eq__ (a := ⟨a.en, a.cv, false⟩) Z, Meth.own (t_Shelf___eq__ Z)⟩
  · cases e
theorem sc_Shelf___len__ : FnScope ["self"] ["self"] (defScope (mth 24 6)) := ⟨rfl, rfl, rfl, by decide +kernel, rfl, by decide +kernel, by decide +kernel⟩
theorem k_Shelf___len__ {w : World} {K : PySem.W.Frag} {mg : Str -> Option Value} {base : Heap} {a : AdP} (Z : Hd K mg base) : Cal P w K mg base (adr K a) (He.ma K (He.ga K "Shelf") "__len__") 1 m_Shelf___len__ [] := by
  obtain ⟨fd, F⟩ := Z.c.def_ 30 (d := dd_Shelf___len__) rfl
  refine ⟨⟨fd, ["self"], [], fn_rs (fn_m F sc_Shelf___len__ rfl rfl (fun cdv A outer s H E hr => ?_)), (F.bindsN (ps := ["self"]) (fun _ _ _ _ _ _ us hl => match us, hl with | [_], _ => rfl)), Dfl.nil⟩, F.kp⟩
  exact (ms_cons (ms_ret (me_bi mc_len rfl (f_len Z) rfl (ma_cons (me_fld (me_var rfl (by first | exact .inl rfl | exact .inr (.inl rfl) | exact .inr (.inr rfl)) rfl rfl) (a_lines Z) rfl) ma_nil rfl))) ms_nil)
theorem q_Shelf___len__ {X : Cx} {a : AdP} (Z : Hd X.K X.mg X.base) (hP : X.prog = P := by rfl) : Owns X (adr X.K a) 1 "__len__" mq__len___Shelf := fun c mf e => by
  unfold mq__len___Shelf at e
  split at e
  · rename_i h
    obtain rfl := Nat.eq_of_beq_eq_true h
    cases e
    exact ⟨_, by rw [hP]; exact k_Shelf___len__ (a := ⟨a.en, a.cv, false⟩) Z, Meth.own (t_Shelf___len__ Z)⟩
  · cases e
theorem nd__law_equal_right : (["_law_drawn_here", "_law_shelf_here", "_law_late", "_law_turned", "_law_other", "_law_back", "_law_packages", "_law_wants", "_law_pairs", "_law_asked", "_law_rows", "_law_one"] : List Str).Nodup := by decide +kernel
theorem sc__law_equal_right : FnScope ["_law_drawn_here", "_law_shelf_here", "_law_late", "_law_turned", "_law_other", "_law_back", "_law_packages", "_law_wants", "_law_pairs", "_law_asked", "_law_rows", "_law_one"] ["_law_drawn_here", "_law_shelf_here"] (defScope (top 38)) := ⟨rfl, rfl, rfl, by decide +kernel, rfl, by decide +kernel, by decide +kernel⟩
theorem k__law_equal_right {w : World} {K : PySem.W.Frag} {mg : Str -> Option Value} {base : Heap} {a : AdP} (Z : Hd K mg base) : Cal P w K mg base (adr K a) (He.ga K "_law_equal_right") 17 m__law_equal_right [] := by
  obtain ⟨fd, F⟩ := Z.c.def_ 31 (d := dd__law_equal_right) rfl
  refine ⟨⟨fd, ["_law_drawn_here", "_law_shelf_here"], [], fn_rs (fn_m F sc__law_equal_right rfl rfl (fun cdv A outer s H E hr => ?_)), (F.bindsN (ps := ["_law_drawn_here", "_law_shelf_here"]) (fun _ _ _ _ _ _ us hl => match us, hl with | [_, _], _ => rfl)), Dfl.nil⟩, F.kp⟩
  exact (ms_cons (ms_asg (me_var rfl (by first | exact .inl rfl | exact .inr (.inl rfl) | exact .inr (.inr rfl)) rfl rfl) (mg_tup rfl (mgs_cons (mg_name nd__law_equal_right rfl (by first | exact .inl rfl | exact .inr rfl) (.inl rfl) (sl := [6, 7, 8, 9, 10]) (by decide)) (mgs_cons (mg_name nd__law_equal_right rfl (by first | exact .inl rfl | exact .inr rfl) (.inl rfl) (sl := [6, 7, 8, 9, 10]) (by decide)) (mgs_cons (mg_name nd__law_equal_right rfl (by first | exact .inl rfl | exact .inr rfl) (.inl rfl) (sl := [6, 7, 8, 9, 10]) (by decide)) (mgs_cons (mg_name nd__law_equal_right rfl (by first | exact .inl rfl | exact .inr rfl) (.inl rfl) (sl := [6, 7, 8, 9, 10]) (by decide)) (mgs_cons (mg_name nd__law_equal_right rfl (by first | exact .inl rfl | exact .inr rfl) (.inl rfl) (sl := [6, 7, 8, 9, 10]) (by decide)) mgs_nil rfl) rfl) rfl) rfl) rfl) rfl rfl) rfl rfl rfl) (ms_cons (ms_if (MW.mt (mw_or (mt_cmpW (mo_neB hr.hu) (me_bi (mc_lenO (q_Shelf___len__ Z) (hr.mono (by omega))) rfl (f_len Z) rfl (ma_cons (me_var rfl (by first | exact .inl rfl | exact .inr (.inl rfl) | exact .inr (.inr rfl)) rfl rfl) ma_nil rfl)) (me_bi mc_len rfl (f_len Z) rfl (ma_cons (me_var rfl (by first | exact .inl rfl | exact .inr (.inl rfl) | exact .inr (.inr rfl)) rfl rfl) ma_nil rfl)) rfl) (mw_or (mt_cmpW (mo_inO (q_Shelf___contains__ Z) (hr.mono (by omega))) me_str (me_var rfl (by first | exact .inl rfl | exact .inr (.inl rfl) | exact .inr (.inr rfl)) rfl rfl) rfl) (mw_or1 (mt_not (mt_cmpW (mo_eqO (q_Shelf___eq__ Z) (hr.mono (by omega)) hr.hu) (me_var rfl (by first | exact .inl rfl | exact .inr (.inl rfl) | exact .inr (.inr rfl)) rfl rfl) (me_cal (k__law_shelf Z) (hr.mono (by omega)) rfl (g__law_shelf Z) (L2N.takes_of rfl rfl rfl rfl) (ma_cons (me_var rfl (by first | exact .inl rfl | exact .inr (.inl rfl) | exact .inr (.inr rfl)) rfl rfl) ma_nil rfl) rfl rfl rfl) rfl)))))) (ms_cons (ms_ret me_bl) ms_nil) ms_nil) (ms_cons (ms_set nd__law_equal_right (i := 2) rfl (by first | exact .inl rfl | exact .inr rfl) (me_binW mo_add (me_revL (me_lc (own := [("_law_other", 4), ("_law_one", 11)]) rfl nd__law_equal_right (mi_any (me_var rfl (by first | exact .inl rfl | exact .inr (.inl rfl) | exact .inr (.inr rfl)) rfl rfl)) (blk_mk rfl (by rfl)) rfl (fun _ _ _ _ _ => (mg_tup rfl (mgs_cons (mg_name nd__law_equal_right rfl (by first | exact .inl rfl | exact .inr rfl) (by first | exact .inl rfl | exact .inr rfl) (sl := [4, 11]) (by decide)) (mgs_cons (mg_name nd__law_equal_right rfl (by first | exact .inl rfl | exact .inr rfl) (by first | exact .inl rfl | exact .inr rfl) (sl := [4, 11]) (by decide)) mgs_nil rfl) rfl) rfl rfl)) (fun _ _ _ _ _ => mts_nil) (fun _ _ _ _ _ => (me_tup (ma_cons (me_var rfl (by first | exact .inl rfl | exact .inr (.inl rfl) | exact .inr (.inr rfl)) rfl rfl) (ma_cons (me_var rfl (by first | exact .inl rfl | exact .inr (.inl rfl) | exact .inr (.inr rfl)) rfl rfl) ma_nil rfl) rfl))) (fun _ => rfl))) (me_slice (me_var rfl (by first | exact .inl rfl | exact .inr (.inl rfl) | exact .inr (.inr rfl)) rfl rfl) mo_none (mo_some me_int))) rfl (.inl rfl)) (ms_cons (ms_set nd__law_equal_right (i := 3) rfl (by first | exact .inl rfl | exact .inr rfl) (me_bt (mc_dictA rfl hr.hu) rfl (f_dict Z) rfl (ma_cons (me_revL (me_lstIt rfl (me_var rfl (by first | exact .inl rfl | exact .inr (.inl rfl) | exact .inr (.inr rfl)) rfl rfl) rfl (f_list Z))) ma_nil rfl)) rfl (.inl rfl)) (ms_cons (ms_if (mt_not (mt_cmpW (mo_eqO (q_Shelf___eq__ Z) (hr.mono (by omega)) hr.hu) (me_var rfl (by first | exact .inl rfl | exact .inr (.inl rfl) | exact .inr (.inr rfl)) rfl rfl) (me_cal (k__law_shelf Z) (hr.mono (by omega)) rfl (g__law_shelf Z) (L2N.takes_of rfl rfl rfl rfl) (ma_cons (me_tup (ma_cons (me_var rfl (by first | exact .inl rfl | exact .inr (.inl rfl) | exact .inr (.inr rfl)) rfl rfl) (ma_cons (me_var rfl (by first | exact .inl rfl | exact .inr (.inl rfl) | exact .inr (.inr rfl)) rfl rfl) (ma_cons (me_var rfl (by first | exact .inl rfl | exact .inr (.inl rfl) | exact .inr (.inr rfl)) rfl rfl) (ma_cons (me_var rfl (by first | exact .inl rfl | exact .inr (.inl rfl) | exact .inr (.inr rfl)) rfl rfl) (ma_cons (me_var rfl (by first | exact .inl rfl | exact .inr (.inl rfl) | exact .inr (.inr rfl)) rfl rfl) ma_nil rfl) rfl) rfl) rfl) rfl)) ma_nil rfl) rfl rfl rfl) rfl)) (ms_cons (ms_ret me_bl) ms_nil) ms_nil) (ms_cons (ms_set nd__law_equal_right (i := 4) rfl (by first | exact .inl rfl | exact .inr rfl) (me_cal (k__law_shelf Z) (hr.mono (by omega)) rfl (g__law_shelf Z) (L2N.takes_of rfl rfl rfl rfl) (ma_cons (me_tup (ma_cons (me_var rfl (by first | exact .inl rfl | exact .inr (.inl rfl) | exact .inr (.inr rfl)) rfl rfl) (ma_cons (me_var rfl (by first | exact .inl rfl | exact .inr (.inl rfl) | exact .inr (.inr rfl)) rfl rfl) (ma_cons (me_var rfl (by first | exact .inl rfl | exact .inr (.inl rfl) | exact .inr (.inr rfl)) rfl rfl) (ma_cons (me_revL (me_var rfl (by first | exact .inl rfl | exact .inr (.inl rfl) | exact .inr (.inr rfl)) rfl rfl)) (ma_cons (me_var rfl (by first | exact .inl rfl | exact .inr (.inl rfl) | exact .inr (.inr rfl)) rfl rfl) ma_nil rfl) rfl) rfl) rfl) rfl)) ma_nil rfl) rfl rfl rfl) rfl (.inl rfl)) (ms_cons (ms_if (mt_cmpW (mo_neB hr.hu) (me_cmpW (mo_eqO (q_Shelf___eq__ Z) (hr.mono (by omega)) hr.hu) (me_var rfl (by first | exact .inl rfl | exact .inr (.inl rfl) | exact .inr (.inr rfl)) rfl rfl) (me_var rfl (by first | exact .inl rfl | exact .inr (.inl rfl) | exact .inr (.inr rfl)) rfl rfl) rfl) (me_cmpW (mo_eqB hr.hu) (me_var rfl (by first | exact .inl rfl | exact .inr (.inl rfl) | exact .inr (.inr rfl)) rfl rfl) (me_revL (me_var rfl (by first | exact .inl rfl | exact .inr (.inl rfl) | exact .inr (.inr rfl)) rfl rfl)) rfl) rfl) (ms_cons (ms_ret me_bl) ms_nil) ms_nil) (ms_cons (ms_set nd__law_equal_right (i := 5) rfl (by first | exact .inl rfl | exact .inr rfl) (me_bt (mc_dictA rfl hr.hu) rfl (f_dict Z) rfl (ma_cons (me_revL (me_lstIt rfl (me_var rfl (by first | exact .inl rfl | exact .inr (.inl rfl) | exact .inr (.inr rfl)) rfl rfl) rfl (f_list Z))) ma_nil rfl)) rfl (.inl rfl)) (ms_cons (ms_ret (me_cmpW (mo_eqB hr.hu) (me_cmpW (mo_eqO (q_Shelf___eq__ Z) (hr.mono (by omega)) hr.hu) (me_var rfl (by first | exact .inl rfl | exact .inr (.inl rfl) | exact .inr (.inr rfl)) rfl rfl) (me_cal (k__law_shelf Z) (hr.mono (by omega)) rfl (g__law_shelf Z) (L2N.takes_of rfl rfl rfl rfl) (ma_cons (me_tup (ma_cons (me_var rfl (by first | exact .inl rfl | exact .inr (.inl rfl) | exact .inr (.inr rfl)) rfl rfl) (ma_cons (me_var rfl (by first | exact .inl rfl | exact .inr (.inl rfl) | exact .inr (.inr rfl)) rfl rfl) (ma_cons (me_var rfl (by first | exact .inl rfl | exact .inr (.inl rfl) | exact .inr (.inr rfl)) rfl rfl) (ma_cons (me_var rfl (by first | exact .inl rfl | exact .inr (.inl rfl) | exact .inr (.inr rfl)) rfl rfl) (ma_cons (me_var rfl (by first | exact .inl rfl | exact .inr (.inl rfl) | exact .inr (.inr rfl)) rfl rfl) ma_nil rfl) rfl) rfl) rfl) rfl)) ma_nil rfl) rfl rfl rfl) rfl) (me_cmpW mo_lt (me_bi mc_len rfl (f_len Z) rfl (ma_cons (me_var rfl (by first | exact .inl rfl | exact .inr (.inl rfl) | exact .inr (.inr rfl)) rfl rfl) ma_nil rfl)) me_int rfl) rfl)) ms_nil)))))))))
theorem nd__law_one_right : (["_law_state", "_law_drawn_here", "_law_shelf_here", "_law_name", "_law_packages", "_law_wants", "_law_pairs", "_law_asked", "_law_rows", "_law_version", "_law_bound", "_law_one", "_law_other", "_law_worth"] : List Str).Nodup := by decide +kernel
theorem sc__law_one_right : FnScope ["_law_state", "_law_drawn_here", "_law_shelf_here", "_law_name", "_law_packages", "_law_wants", "_law_pairs", "_law_asked", "_law_rows", "_law_version", "_law_bound", "_law_one", "_law_other", "_law_worth"] ["_law_state"] (defScope (top 37)) := ⟨rfl, rfl, rfl, by decide +kernel, rfl, by decide +kernel, by decide +kernel⟩
theorem k__law_one_right {w : World} {K : PySem.W.Frag} {mg : Str -> Option Value} {base : Heap} {a : AdP} (Z : Hd K mg base) : Cal P w K mg base (adr K a) (He.ga K "_law_one_right") 26 m__law_one_right [] := by
  obtain ⟨fd, F⟩ := Z.c.def_ 32 (d := dd__law_one_right) rfl
  refine ⟨⟨fd, ["_law_state"], [], fn_rs (fn_m F sc__law_one_right rfl rfl (fun cdv A outer s H E hr => ?_)), (F.bindsN (ps := ["_law_state"]) (fun _ _ _ _ _ _ us hl => match us, hl with | [_], _ => rfl)), Dfl.nil⟩, F.kp⟩
  exact (ms_cons (ms_set nd__law_one_right (i := 1) rfl (by first | exact .inl rfl | exact .inr rfl) (me_cal (k__law_drawn Z) (hr.mono (by omega)) rfl (g__law_drawn Z) (L2N.takes_of rfl rfl rfl rfl) (ma_cons (me_var rfl (by first | exact .inl rfl | exact .inr (.inl rfl) | exact .inr (.inr rfl)) rfl rfl) (ma_cons me_int ma_nil rfl) rfl) rfl rfl rfl) rfl (.inl rfl)) (ms_cons (ms_asg (me_var rfl (by first | exact .inl rfl | exact .inr (.inl rfl) | exact .inr (.inr rfl)) rfl rfl) (mg_tup rfl (mgs_cons (mg_name nd__law_one_right rfl (by first | exact .inl rfl | exact .inr rfl) (.inl rfl) (sl := [4, 5, 6, 7, 8]) (by decide)) (mgs_cons (mg_name nd__law_one_right rfl (by first | exact .inl rfl | exact .inr rfl) (.inl rfl) (sl := [4, 5, 6, 7, 8]) (by decide)) (mgs_cons (mg_name nd__law_one_right rfl (by first | exact .inl rfl | exact .inr rfl) (.inl rfl) (sl := [4, 5, 6, 7, 8]) (by decide)) (mgs_cons (mg_name nd__law_one_right rfl (by first | exact .inl rfl | exact .inr rfl) (.inl rfl) (sl := [4, 5, 6, 7, 8]) (by decide)) (mgs_cons (mg_name nd__law_one_right rfl (by first | exact .inl rfl | exact .inr rfl) (.inl rfl) (sl := [4, 5, 6, 7, 8]) (by decide)) mgs_nil rfl) rfl) rfl) rfl) rfl) rfl rfl) rfl rfl rfl) (ms_cons (ms_set nd__law_one_right (i := 2) rfl (by first | exact .inl rfl | exact .inr rfl) (me_cal (k__law_shelf Z) (hr.mono (by omega)) rfl (g__law_shelf Z) (L2N.takes_of rfl rfl rfl rfl) (ma_cons (me_var rfl (by first | exact .inl rfl | exact .inr (.inl rfl) | exact .inr (.inr rfl)) rfl rfl) ma_nil rfl) rfl rfl rfl) rfl (.inl rfl)) (ms_cons (ms_if (mt_cmpW (mo_neB hr.hu) (me_propC (me_var rfl (by first | exact .inl rfl | exact .inr (.inl rfl) | exact .inr (.inr rfl)) rfl rfl) (l_Shelf Z) (p_Shelf_packages Z) (k_Shelf_packages Z) (hr.mono (by omega)) rfl) (me_var rfl (by first | exact .inl rfl | exact .inr (.inl rfl) | exact .inr (.inr rfl)) rfl rfl) rfl) (ms_cons (ms_ret me_bl) ms_nil) ms_nil) (ms_cons (ms_if (mt_cmpW (mo_neB hr.hu) (me_bt (mc_list rfl) rfl (f_list Z) rfl (ma_cons (me_propC (me_var rfl (by first | exact .inl rfl | exact .inr (.inl rfl) | exact .inr (.inr rfl)) rfl rfl) (l_Shelf Z) (p_Shelf_packages Z) (k_Shelf_packages Z) (hr.mono (by omega)) rfl) ma_nil rfl)) (me_bt (mc_list rfl) rfl (f_list Z) rfl (ma_cons (me_var rfl (by first | exact .inl rfl | exact .inr (.inl rfl) | exact .inr (.inr rfl)) rfl rfl) ma_nil rfl)) rfl) (ms_cons (ms_ret me_bl) ms_nil) ms_nil) (ms_cons (ms_if (mt_cmpW (mo_neB hr.hu) (me_propC (me_var rfl (by first | exact .inl rfl | exact .inr (.inl rfl) | exact .inr (.inr rfl)) rfl rfl) (l_Shelf Z) (p_Shelf_requests Z) (k_Shelf_requests Z) (hr.mono (by omega)) rfl) (me_var rfl (by first | exact .inl rfl | exact .inr (.inl rfl) | exact .inr (.inr rfl)) rfl rfl) rfl) (ms_cons (ms_ret me_bl) ms_nil) ms_nil) (ms_cons (ms_if (mt_cmpW (mo_neB hr.hu) (me_propC (me_var rfl (by first | exact .inl rfl | exact .inr (.inl rfl) | exact .inr (.inr rfl)) rfl rfl) (l_Shelf Z) (p_Shelf_names Z) (k_Shelf_names Z) (hr.mono (by omega)) rfl) (me_bt (mc_list rfl) rfl (f_list Z) rfl (ma_cons (me_var rfl (by first | exact .inl rfl | exact .inr (.inl rfl) | exact .inr (.inr rfl)) rfl rfl) ma_nil rfl)) rfl) (ms_cons (ms_ret me_bl) ms_nil) ms_nil) (ms_cons (ms_for (passes_of rfl) rfl (mi_any (me_var rfl (by first | exact .inl rfl | exact .inr (.inl rfl) | exact .inr (.inr rfl)) rfl rfl)) (mg_name nd__law_one_right rfl (by first | exact .inl rfl | exact .inr rfl) (.inl rfl) (sl := [3]) (by decide)) (ms_cons (ms_for (passes_of rfl) rfl (mi_range2 rfl (f_range Z) (ma_cons me_int (ma_cons (me_binW mo_add (me_ix hr.hu (me_var rfl (by first | exact .inl rfl | exact .inr (.inl rfl) | exact .inr (.inr rfl)) rfl rfl) (me_var rfl (by first | exact .inl rfl | exact .inr (.inl rfl) | exact .inr (.inr rfl)) rfl rfl) (fun _ _ => rfl)) me_int) ma_nil rfl) rfl)) (mg_name nd__law_one_right rfl (by first | exact .inl rfl | exact .inr rfl) (.inl rfl) (sl := [9]) (by decide)) (ms_cons (ms_if (mt_cmpW (mo_neB hr.hu) (me_mt (me_var rfl (by first | exact .inl rfl | exact .inr (.inl rfl) | exact .inr (.inr rfl)) rfl rfl) (l_Shelf Z) (t_Shelf_needs Z) (k_Shelf_needs Z) (hr.mono (by omega)) (L2N.takes_of rfl rfl rfl rfl) (ma_cons (me_tup (ma_cons (me_var rfl (by first | exact .inl rfl | exact .inr (.inl rfl) | exact .inr (.inr rfl)) rfl rfl) (ma_cons (me_var rfl (by first | exact .inl rfl | exact .inr (.inl rfl) | exact .inr (.inr rfl)) rfl rfl) ma_nil rfl) rfl)) ma_nil rfl) rfl rfl rfl) (me_bm PySem.F.plainAttrs_dict PySem.F.slot_dict_get PySem.F.type_dict_get (mt_getW hr.hu) ty_dict (me_var rfl (by first | exact .inl rfl | exact .inr (.inl rfl) | exact .inr (.inr rfl)) rfl rfl) (ma_cons (me_tup (ma_cons (me_var rfl (by first | exact .inl rfl | exact .inr (.inl rfl) | exact .inr (.inr rfl)) rfl rfl) (ma_cons (me_var rfl (by first | exact .inl rfl | exact .inr (.inl rfl) | exact .inr (.inr rfl)) rfl rfl) ma_nil rfl) rfl)) (ma_cons (me_tup ma_nil) ma_nil rfl) rfl)) rfl) (ms_cons (ms_ret me_bl) ms_nil) ms_nil) ms_nil) (fun _ => rfl)) ms_nil) (fun _ => rfl)) (ms_cons (ms_for (passes_of rfl) rfl (mi_any (me_var rfl (by first | exact .inl rfl | exact .inr (.inl rfl) | exact .inr (.inr rfl)) rfl rfl)) (mg_name nd__law_one_right rfl (by first | exact .inl rfl | exact .inr rfl) (.inl rfl) (sl := [3]) (by decide)) (ms_cons (ms_asg (me_ix hr.hu (me_var rfl (by first | exact .inl rfl | exact .inr (.inl rfl) | exact .inr (.inr rfl)) rfl rfl) (me_var rfl (by first | exact .inl rfl | exact .inr (.inl rfl) | exact .inr (.inr rfl)) rfl rfl) (fun _ _ => rfl)) (mg_tup rfl (mgs_cons (mg_name nd__law_one_right rfl (by first | exact .inl rfl | exact .inr rfl) (.inl rfl) (sl := [11, 12, 13]) (by decide)) (mgs_cons (mg_name nd__law_one_right rfl (by first | exact .inl rfl | exact .inr rfl) (.inl rfl) (sl := [11, 12, 13]) (by decide)) (mgs_cons (mg_name nd__law_one_right rfl (by first | exact .inl rfl | exact .inr rfl) (.inl rfl) (sl := [11, 12, 13]) (by decide)) mgs_nil rfl) rfl) rfl) rfl rfl) rfl rfl rfl) (ms_cons (ms_set nd__law_one_right (i := 10) rfl (by first | exact .inl rfl | exact .inr rfl) (me_ixO (q_Shelf___getitem__ Z) (i_Shelf___getitem__ Z) (hr.mono (by omega)) (me_var rfl (by first | exact .inl rfl | exact .inr (.inl rfl) | exact .inr (.inr rfl)) rfl rfl) (me_var rfl (by first | exact .inl rfl | exact .inr (.inl rfl) | exact .inr (.inr rfl)) rfl rfl) (fun _ _ => rfl)) rfl (.inl rfl)) (ms_cons (ms_if (mt_cmpW (mo_neB hr.hu) (me_tup (ma_cons (me_propC (me_var rfl (by first | exact .inl rfl | exact .inr (.inl rfl) | exact .inr (.inr rfl)) rfl rfl) (l_Bound Z) (p_Bound_first Z) (k_Bound_first Z) (hr.mono (by omega)) rfl) (ma_cons (me_propC (me_var rfl (by first | exact .inl rfl | exact .inr (.inl rfl) | exact .inr (.inr rfl)) rfl rfl) (l_Bound Z) (p_Bound_versions Z) (k_Bound_versions Z) (hr.mono (by omega)) rfl) ma_nil rfl) rfl)) (me_var rfl (by first | exact .inl rfl | exact .inr (.inl rfl) | exact .inr (.inr rfl)) rfl rfl) rfl) (ms_cons (ms_ret me_bl) ms_nil) ms_nil) (ms_cons (ms_if (mt_cmpW (mo_neB hr.hu) (me_tup (ma_cons (me_propC (me_var rfl (by first | exact .inl rfl | exact .inr (.inl rfl) | exact .inr (.inr rfl)) rfl rfl) (l_Bound Z) (p_Bound_second Z) (k_Bound_second Z) (hr.mono (by omega)) rfl) (ma_cons (me_propC (me_var rfl (by first | exact .inl rfl | exact .inr (.inl rfl) | exact .inr (.inr rfl)) rfl rfl) (l_Bound Z) (p_Bound_others Z) (k_Bound_others Z) (hr.mono (by omega)) rfl) ma_nil rfl) rfl)) (me_var rfl (by first | exact .inl rfl | exact .inr (.inl rfl) | exact .inr (.inr rfl)) rfl rfl) rfl) (ms_cons (ms_ret me_bl) ms_nil) ms_nil) (ms_cons (ms_if (mt_cmpW (mo_neB hr.hu) (me_propC (me_var rfl (by first | exact .inl rfl | exact .inr (.inl rfl) | exact .inr (.inr rfl)) rfl rfl) (l_Bound Z) (p_Bound_cost Z) (k_Bound_cost Z) (hr.mono (by omega)) rfl) (me_var rfl (by first | exact .inl rfl | exact .inr (.inl rfl) | exact .inr (.inr rfl)) rfl rfl) rfl) (ms_cons (ms_ret me_bl) ms_nil) ms_nil) (ms_cons (ms_if (mt_not (mt_cmpW (mo_eqO (q_Bound___eq__ Z) (hr.mono (by omega)) hr.hu) (me_negO (q_Bound___neg__ Z) (hr.mono (by omega)) (me_var rfl (by first | exact .inl rfl | exact .inr (.inl rfl) | exact .inr (.inr rfl)) rfl rfl)) (me_rs (me_mkK (ks := ["cost"]) (fr := true) (mk_Bound Z) (kk_Bound_init Z) (hr.mono (by omega)) rfl (g_Bound Z) (L2N.takes_of rfl rfl rfl rfl) (ma_cons (me_ix hr.hu (me_var rfl (by first | exact .inl rfl | exact .inr (.inl rfl) | exact .inr (.inr rfl)) rfl rfl) me_int (fun _ _ => rfl)) (ma_cons (me_ix hr.hu (me_var rfl (by first | exact .inl rfl | exact .inr (.inl rfl) | exact .inr (.inr rfl)) rfl rfl) me_int (fun _ _ => rfl)) (ma_cons (me_ix hr.hu (me_var rfl (by first | exact .inl rfl | exact .inr (.inl rfl) | exact .inr (.inr rfl)) rfl rfl) me_int (fun _ _ => rfl)) (ma_cons (me_ix hr.hu (me_var rfl (by first | exact .inl rfl | exact .inr (.inl rfl) | exact .inr (.inr rfl)) rfl rfl) me_int (fun _ _ => rfl)) ma_nil rfl) rfl) rfl) rfl) (mk_cons (me_var rfl (by first | exact .inl rfl | exact .inr (.inl rfl) | exact .inr (.inr rfl)) rfl rfl) mk_nil) rfl rfl rfl rfl rfl)) rfl)) (ms_cons (ms_ret me_bl) ms_nil) ms_nil) (ms_cons (ms_if (mt_not (mt_cmpW (mo_eqO (q_Bound___eq__ Z) (hr.mono (by omega)) hr.hu) (me_negO (q_Bound___neg__ Z) (hr.mono (by omega)) (me_negO (q_Bound___neg__ Z) (hr.mono (by omega)) (me_var rfl (by first | exact .inl rfl | exact .inr (.inl rfl) | exact .inr (.inr rfl)) rfl rfl))) (me_var rfl (by first | exact .inl rfl | exact .inr (.inl rfl) | exact .inr (.inr rfl)) rfl rfl) rfl)) (ms_cons (ms_ret me_bl) ms_nil) ms_nil) (ms_cons (ms_if (mt_cmpW (mo_notInO (q_Shelf___contains__ Z) (hr.mono (by omega))) (me_var rfl (by first | exact .inl rfl | exact .inr (.inl rfl) | exact .inr (.inr rfl)) rfl rfl) (me_var rfl (by first | exact .inl rfl | exact .inr (.inl rfl) | exact .inr (.inr rfl)) rfl rfl) rfl) (ms_cons (ms_ret me_bl) ms_nil) ms_nil) ms_nil)))))))) (fun _ => rfl)) (ms_cons (ms_ret (me_cal (k__law_equal_right Z) (hr.mono (by omega)) rfl (g__law_equal_right Z) (L2N.takes_of rfl rfl rfl rfl) (ma_cons (me_var rfl (by first | exact .inl rfl | exact .inr (.inl rfl) | exact .inr (.inr rfl)) rfl rfl) (ma_cons (me_var rfl (by first | exact .inl rfl | exact .inr (.inl rfl) | exact .inr (.inr rfl)) rfl rfl) ma_nil rfl) rfl) rfl rfl rfl)) ms_nil))))))))))
theorem nd_law : (["_law_script", "_law_by"] : List Str).Nodup := by decide +kernel
theorem sc_law : FnScope ["_law_script", "_law_by"] ["_law_script"] (defScope (top 39)) := ⟨rfl, rfl, rfl, by decide +kernel, rfl, by decide +kernel, by decide +kernel⟩
theorem b_law {K : PySem.W.Frag} {fd : FuncData} (F : FunD K dd_law.name dd_law.qual dd_law.params dd_law.body dd_law.scope (dd_law.dvs K) (dd_law.kws K) (He.fAd K dd_law.at_) fd) : ∀ (s : Shared) (u : Value), BindsTo s fd ⟨[u], []⟩ [("_law_script", u)] := fun s u => FunD.bindsA (ps := ["_law_script"]) F (fun _ _ _ _ _ _ us hl => match us, hl with | [_], _ => rfl) s [u] rfl
theorem k_law {w : World} {K : PySem.W.Frag} {mg : Str -> Option Value} {base : Heap} {a : AdP} (Z : Hd K mg base) {fd : FuncData} (F : FunD K dd_law.name dd_law.qual dd_law.params dd_law.body dd_law.scope (dd_law.dvs K) (dd_law.kws K) (He.fAd K dd_law.at_) fd) : FnOk P w K mg base (L2N.CX P w) 27 (He.ga K "law") fd ["_law_script"] (spM ⟨P, w, K, (adr K a)⟩ m_law) := by
  refine fn_rs (fn_m F sc_law rfl rfl fun cdv A outer s H E hr => ?_)
  exact (ms_cons (ms_for (passes_of rfl) rfl (mi_range3 rfl (f_range Z) (ma_cons me_int (ma_cons (me_bi (mc_max2 rfl) rfl (f_max Z) rfl (ma_cons me_int (ma_cons (me_bi (mc_min2 rfl) rfl (f_min Z) rfl (ma_cons me_int (ma_cons (me_bi mc_len rfl (f_len Z) rfl (ma_cons (me_var rfl (by first | exact .inl rfl | exact .inr (.inl rfl) | exact .inr (.inr rfl)) rfl rfl) ma_nil rfl)) ma_nil rfl) rfl)) ma_nil rfl) rfl)) (ma_cons me_int ma_nil rfl) rfl) rfl)) (mg_name nd_law rfl (by first | exact .inl rfl | exact .inr rfl) (.inl rfl) (sl := [1]) (by decide)) (ms_cons (ms_if (mt_not (mt_val (me_cal (k__law_one_right Z) (hr.mono (by omega)) rfl (g__law_one_right Z) (L2N.takes_of rfl rfl rfl rfl) (ma_cons (me_box (ma_cons (me_var rfl (by first | exact .inl rfl | exact .inr (.inl rfl) | exact .inr (.inr rfl)) rfl rfl) (ma_cons (me_var rfl (by first | exact .inl rfl | exact .inr (.inl rfl) | exact .inr (.inr rfl)) rfl rfl) (ma_cons me_int ma_nil rfl) rfl) rfl)) ma_nil rfl) rfl rfl rfl) (fun _ => rfl))) (ms_cons (ms_ret me_bl) ms_nil) ms_nil) ms_nil) (fun _ => rfl)) (ms_cons (ms_ret me_bl) ms_nil))
end K31
end
section
namespace K31
open PySem PySem.Spec PyProof.Rows L2 Mi
theorem P_eq : P = (PySem.Challenge.rw_fewbounds_k31_whole_shelves).prog := by unfold P; rfl
theorem facts {w : World} {K : PySem.W.Frag} {h : Heap} {mg : Str -> Option Value} {f : Addr} (X : K.In h) (G : h.Ns mainGlobals mg) (hfa : mg ("law" : Str) = some (.ref f)) (y : SaysXT faL fnL fpL tfL exB h K) :
    ∃ fd : FuncData, (∀ (s : Shared) (u : Value), BindsTo s fd ⟨[u], []⟩ [("_law_script", u)]) /\ ∀ base : Heap, K.In base -> base.Ns mainGlobals mg -> (∀ p ∈ tfL.map (He.cT K), LamX.TabB base mg p.1 p.2) -> FnOk (PySem.Challenge.rw_fewbounds_k31_whole_shelves).prog w K mg base (L2N.CX (PySem.Challenge.rw_fewbounds_k31_whole_shelves).prog w) 27 f fd ["_law_script"] (spM ⟨(PySem.Challenge.rw_fewbounds_k31_whole_shelves).prog, w, K, adr K ⟨[], fun _ => none, true⟩⟩ m_law) := by
  rw [<- P_eq]
  obtain ⟨fd, F⟩ := y.d.def_ 33 (d := dd_law) rfl
  have e := hfa.symm.trans (He.glo_ok X G (y.d.fact 25 (f := .glo "law") rfl))
  cases e
  exact ⟨fd, b_law F, fun base _ _ tb => k_law (⟨⟨h, X, G⟩, y.d, y.ex, y.p, fun p hp => tb _ (List.mem_map_of_mem hp)⟩ : Hd K mg base) F⟩
theorem tabs_nd {K : PySem.W.Frag} (x : exB K = true) : ((tbs K).map (·.1)).Nodup := of_decide_eq_true (List.all_eq_true.mp (Bool.and_eq_true_iff.mp x).2 _ (List.mem_of_getElem? (i := 9) rfl))
theorem start {w : World} {K : PySem.W.Frag} {h : Heap} (y : SaysXT faL fnL fpL tfL exB h K) {H : Hp} {a : Addr} {ns : List Int} (hl : ns.length <= 63) (hT : ∀ p ∈ tfL.map (He.cT K), H p.2 = some (.tbl #[])) (hS : SqL K H a (ns.map V.int)) :
    spM ⟨(PySem.Challenge.rw_fewbounds_k31_whole_shelves).prog, w, K, adr K ⟨[], fun _ => none, true⟩⟩ m_law [.ref a] H (fun v _ => v = .bl true) fun _ _ _ => False := by
  rw [<- P_eq]
  exact Mi.start_okT (tabs_nd y.ex) ev hl (fun p hp => by
    obtain ⟨i, hi, e⟩ := List.mem_iff_getElem.mp hp
    have e1 : (tbs K)[i]? = some p := by rw [<- e]; exact List.getElem?_eq_getElem hi
    have e3 := (List.getElem?_zipWith_eq_some (f := fun (p : He.Defn) (s : Str) => ((He.cT K p).2, s)) (l₁ := tfL) (l₂ := tqL) (i := i)).mp e1
    obtain ⟨x, s, h1, h2, h3⟩ := e3
    rw [<- h3]
    exact hT _ (List.mem_map_of_mem (List.mem_of_getElem? h1))) hS
end K31
open PySem PySem.W PySem.Calls PyProof.Rows
theorem PySem.Challenge.cw_fewbounds_k31_whole_shelves_holds : PySem.Challenge.rw_fewbounds_k31_whole_shelves.Holds := by
  refine K31.head0 ?hc
  case hc =>
    refine Mi.end_ofT (l := PySem.Challenge.rw_fewbounds_k31_whole_shelves) (n := 63) (k := 27) (x := "_law_script") (CX := fun w => L2N.CX (PySem.Challenge.rw_fewbounds_k31_whole_shelves).prog w) rfl (by decide) (by kernel_rfl) ⟨rfl, by decide, by decide⟩ ?F (fun w => Mi.out_no (PySem.Challenge.rw_fewbounds_k31_whole_shelves).prog w)
    intro w mg fa h Y G hmg0
    obtain ⟨K, KX, y⟩ := Y
    have hmg : mg ("law" : PySem.Str) = some (.ref fa) := by
      have e : (HandSHeadRun.topDef K31.RR.prog 39).name = ("law" : PySem.Str) := by kernel_rfl
      rw [<- e]
      exact hmg0
    obtain ⟨fd, hb, hF⟩ := K31.facts (w := w) KX G hmg y
    exact ⟨K, fd, K31.tfL.map (He.cT K), _, KX, fun p hp => by obtain ⟨q, hq, e⟩ := List.mem_map.mp hp; rw [<- e]; exact y.empty q hq, fun p hp => by obtain ⟨q, hq, e⟩ := List.mem_map.mp hp; rw [<- e]; exact y.out q hq,
      fun p hp => by obtain ⟨q, hq, e⟩ := List.mem_map.mp hp; rw [<- e]; exact PySem.W.codeHd_of_K KX (y.hd q hq), hb, fun H a ns hl hT hS => K31.start y hl hT hS, hF⟩
end
