import PyProof.Rows.All
import Wide.All
import OpenK.AllK
import Wide.FinOn
import KE.KStateDown
import HandS.Words
import HandS.HeadHook4
import PySem.Challenge.RW_passwidth_k29_whole_one_more_pass_keeps
import HandS.Defaults
import HandS.Property
import HandS.ClsMeth
import HandS.ExcIs
import HandS.ExcField
import HandS.Exc
import KE.KExcInit
import HandS.Head0
import HandS.Head1
import HandS.Head2
import HandS.HeadWalk
import HandS.ForMost
import HandS.ForExc
import HandS.More
import HandS.Star
import HandS.IsInst
import HandS.Conv
import HandS.FStr
import HandS.OwnEq
import HandS.Deep
import HandS.DictComp
import HandS.TryMany
import HandS.Lambda
import HandS.TupLe
import HandS.SlotsOwn
import HandS.Wide
import HandS.Walk
import HandS.Evl
import HandS.ExcInit
import HandS.WordsExc
import HandS.Strs
import HandS.Iter
import KE.GoesEnum
import PyProof.TupleOfSeq
import KE.KDictPairs
import KE.KxIndex
import HandS.Text
import HandS.TupAny
import PyProof.DictCompW
import HandS.WordsDict
import HandS.DeepEq
import PyProof.ReprRoads
import PyProof.StrLawsRepr
import HandS.EndBits
import HandS.EndTab
set_option Elab.async false
set_option linter.all false
set_option maxRecDepth 100000
/-! The text of the program by places, and each def that the law reaches as a datum. -/
namespace K29
open PySem PySem.Spec PyProof.Rows L2
def top (i : Nat) : Stmt := PySem.Challenge.pw_passwidth_k29_whole_one_more_pass_keeps.main.body.getD i (.Pass ⟨0, 0, 0, 0⟩)
abbrev s_closure : Stmt := top 2
abbrev s_is_name : Stmt := top 20
abbrev s_is_integer : Stmt := top 21
abbrev s_is_between : Stmt := top 22
abbrev s_need_room : Stmt := top 27
abbrev s_is_copy : Stmt := top 28
abbrev s_place_in : Stmt := top 30
abbrev s_is_bar : Stmt := top 31
abbrev s_row_text : Stmt := top 34
abbrev s_sheet_text : Stmt := top 35
abbrev s_copies_text : Stmt := top 36
abbrev s_need_copies : Stmt := top 38
abbrev s_unfinished : Stmt := top 46
abbrev s_ring_in : Stmt := top 47
abbrev s_first_wrong : Stmt := top 50
abbrev s_are_needs : Stmt := top 51
abbrev s_need_rows : Stmt := top 52
abbrev s_need_needs : Stmt := top 53
abbrev s_law_pen : Stmt := top 56
abbrev s_law_draw : Stmt := top 57
abbrev s_law_names : Stmt := top 58
abbrev s_law_needs : Stmt := top 59
abbrev s_law_below : Stmt := top 60
abbrev s_law_bars : Stmt := top 61
abbrev s_law_size : Stmt := top 62
abbrev s_law_keeps : Stmt := top 63
abbrev s_law_is_keep : Stmt := top 64
abbrev s_law_heard : Stmt := top 65
abbrev s_law_refused_right : Stmt := top 66
abbrev s_law_raised_right : Stmt := top 67
abbrev s_law : Stmt := top 68
abbrev s_InvalidPasses_init : Stmt := inClass (top 8) 0
abbrev s_NotMoved_init : Stmt := inClass (top 11) 0
abbrev s_TooMany_init : Stmt := inClass (top 16) 0
abbrev s_Keep_init : Stmt := inClass (top 39) 0
abbrev s_Keep_of : Stmt := inClass (top 39) 1
abbrev s_Keep_sheet : Stmt := inClass (top 39) 2
abbrev s_Keep_span : Stmt := inClass (top 39) 3
abbrev s_Keep_copies : Stmt := inClass (top 39) 4
abbrev s_Keep_kept : Stmt := inClass (top 39) 5
abbrev s_Keep_moved : Stmt := inClass (top 39) 6
abbrev s_Keep_eq : Stmt := inClass (top 39) 11
abbrev s_Keep_raised : Stmt := inClass (top 39) 19
abbrev s_Sheet_init : Stmt := inClass (top 54) 1
abbrev s_Sheet_fill : Stmt := inClass (top 54) 2
abbrev s_Sheet_of : Stmt := inClass (top 54) 3
abbrev s_Sheet_rows : Stmt := inClass (top 54) 5
abbrev s_Sheet_needs : Stmt := inClass (top 54) 6
abbrev s_Sheet_contains : Stmt := inClass (top 54) 7
abbrev s_Sheet_len : Stmt := inClass (top 54) 10
abbrev s_Sheet_eq : Stmt := inClass (top 54) 11
/-! ### the data -/
def d_closure : He.DefD := ⟨("closure", none), "closure", "closure", defArgs s_closure, defBody s_closure, defScope s_closure, [], []⟩
def d_is_name : He.DefD := ⟨("is_name", none), "is_name", "is_name", defArgs s_is_name, defBody s_is_name, defScope s_is_name, [], []⟩
def d_is_integer : He.DefD := ⟨("is_integer", none), "is_integer", "is_integer", defArgs s_is_integer, defBody s_is_integer, defScope s_is_integer, [], []⟩
def d_is_between : He.DefD := ⟨("is_between", none), "is_between", "is_between", defArgs s_is_between, defBody s_is_between, defScope s_is_between, [], []⟩
def d_need_room : He.DefD := ⟨("need_room", none), "need_room", "need_room", defArgs s_need_room, defBody s_need_room, defScope s_need_room, [], [("most", .int 120)]⟩
def d_is_copy : He.DefD := ⟨("is_copy", none), "is_copy", "is_copy", defArgs s_is_copy, defBody s_is_copy, defScope s_is_copy, [], []⟩
def d_place_in : He.DefD := ⟨("place_in", none), "place_in", "place_in", defArgs s_place_in, defBody s_place_in, defScope s_place_in, [], []⟩
def d_is_bar : He.DefD := ⟨("is_bar", none), "is_bar", "is_bar", defArgs s_is_bar, defBody s_is_bar, defScope s_is_bar, [], []⟩
def d_row_text : He.DefD := ⟨("row_text", none), "row_text", "row_text", defArgs s_row_text, defBody s_row_text, defScope s_row_text, [], []⟩
def d_sheet_text : He.DefD := ⟨("sheet_text", none), "sheet_text", "sheet_text", defArgs s_sheet_text, defBody s_sheet_text, defScope s_sheet_text, [], []⟩
def d_copies_text : He.DefD := ⟨("copies_text", none), "copies_text", "copies_text", defArgs s_copies_text, defBody s_copies_text, defScope s_copies_text, [], []⟩
def d_need_copies : He.DefD := ⟨("need_copies", none), "need_copies", "need_copies", defArgs s_need_copies, defBody s_need_copies, defScope s_need_copies, [], []⟩
def d_unfinished : He.DefD := ⟨("unfinished", none), "unfinished", "unfinished", defArgs s_unfinished, defBody s_unfinished, defScope s_unfinished, [], []⟩
def d_ring_in : He.DefD := ⟨("ring_in", none), "ring_in", "ring_in", defArgs s_ring_in, defBody s_ring_in, defScope s_ring_in, [], []⟩
def d_first_wrong : He.DefD := ⟨("first_wrong", none), "first_wrong", "first_wrong", defArgs s_first_wrong, defBody s_first_wrong, defScope s_first_wrong, [], []⟩
def d_are_needs : He.DefD := ⟨("are_needs", none), "are_needs", "are_needs", defArgs s_are_needs, defBody s_are_needs, defScope s_are_needs, [], []⟩
def d_need_rows : He.DefD := ⟨("need_rows", none), "need_rows", "need_rows", defArgs s_need_rows, defBody s_need_rows, defScope s_need_rows, [], []⟩
def d_need_needs : He.DefD := ⟨("need_needs", none), "need_needs", "need_needs", defArgs s_need_needs, defBody s_need_needs, defScope s_need_needs, [], []⟩
def d_law_pen : He.DefD := ⟨("_law_pen", none), "_law_pen", "_law_pen", defArgs s_law_pen, defBody s_law_pen, defScope s_law_pen, [], []⟩
def d_law_draw : He.DefD := ⟨("_law_draw", none), "_law_draw", "_law_draw", defArgs s_law_draw, defBody s_law_draw, defScope s_law_draw, [], []⟩
def d_law_names : He.DefD := ⟨("_law_names", none), "_law_names", "_law_names", defArgs s_law_names, defBody s_law_names, defScope s_law_names, [], []⟩
def d_law_needs : He.DefD := ⟨("_law_needs", none), "_law_needs", "_law_needs", defArgs s_law_needs, defBody s_law_needs, defScope s_law_needs, [], []⟩
def d_law_below : He.DefD := ⟨("_law_below", none), "_law_below", "_law_below", defArgs s_law_below, defBody s_law_below, defScope s_law_below, [], []⟩
def d_law_bars : He.DefD := ⟨("_law_bars", none), "_law_bars", "_law_bars", defArgs s_law_bars, defBody s_law_bars, defScope s_law_bars, [], []⟩
def d_law_size : He.DefD := ⟨("_law_size", none), "_law_size", "_law_size", defArgs s_law_size, defBody s_law_size, defScope s_law_size, [], []⟩
def d_law_keeps : He.DefD := ⟨("_law_keeps", none), "_law_keeps", "_law_keeps", defArgs s_law_keeps, defBody s_law_keeps, defScope s_law_keeps, [], []⟩
def d_law_is_keep : He.DefD := ⟨("_law_is_keep", none), "_law_is_keep", "_law_is_keep", defArgs s_law_is_keep, defBody s_law_is_keep, defScope s_law_is_keep, [], []⟩
def d_law_heard : He.DefD := ⟨("_law_heard", none), "_law_heard", "_law_heard", defArgs s_law_heard, defBody s_law_heard, defScope s_law_heard, [], []⟩
def d_law_refused_right : He.DefD := ⟨("_law_refused_right", none), "_law_refused_right", "_law_refused_right", defArgs s_law_refused_right, defBody s_law_refused_right, defScope s_law_refused_right, [], []⟩
def d_law_raised_right : He.DefD := ⟨("_law_raised_right", none), "_law_raised_right", "_law_raised_right", defArgs s_law_raised_right, defBody s_law_raised_right, defScope s_law_raised_right, [], []⟩
def d_law : He.DefD := ⟨("law", none), "law", "law", defArgs s_law, defBody s_law, defScope s_law, [], []⟩
def d_InvalidPasses_init : He.DefD := ⟨("InvalidPasses", some "__init__"), "__init__", "InvalidPasses.__init__", defArgs s_InvalidPasses_init, defBody s_InvalidPasses_init, defScope s_InvalidPasses_init, [], []⟩
def d_NotMoved_init : He.DefD := ⟨("NotMoved", some "__init__"), "__init__", "NotMoved.__init__", defArgs s_NotMoved_init, defBody s_NotMoved_init, defScope s_NotMoved_init, [], []⟩
def d_TooMany_init : He.DefD := ⟨("TooMany", some "__init__"), "__init__", "TooMany.__init__", defArgs s_TooMany_init, defBody s_TooMany_init, defScope s_TooMany_init, [], []⟩
def d_Keep_init : He.DefD := ⟨("Keep", some "__init__"), "__init__", "Keep.__init__", defArgs s_Keep_init, defBody s_Keep_init, defScope s_Keep_init, [], []⟩
def d_Keep_eq : He.DefD := ⟨("Keep", some "__eq__"), "__eq__", "Keep.__eq__", defArgs s_Keep_eq, defBody s_Keep_eq, defScope s_Keep_eq, [], []⟩
def d_Keep_raised : He.DefD := ⟨("Keep", some "raised"), "raised", "Keep.raised", defArgs s_Keep_raised, defBody s_Keep_raised, defScope s_Keep_raised, [], []⟩
def d_Sheet_init : He.DefD := ⟨("Sheet", some "__init__"), "__init__", "Sheet.__init__", defArgs s_Sheet_init, defBody s_Sheet_init, defScope s_Sheet_init, [], []⟩
def d_Sheet_fill : He.DefD := ⟨("Sheet", some "fill"), "fill", "Sheet.fill", defArgs s_Sheet_fill, defBody s_Sheet_fill, defScope s_Sheet_fill, [], []⟩
def d_Sheet_contains : He.DefD := ⟨("Sheet", some "__contains__"), "__contains__", "Sheet.__contains__", defArgs s_Sheet_contains, defBody s_Sheet_contains, defScope s_Sheet_contains, [], []⟩
def d_Sheet_len : He.DefD := ⟨("Sheet", some "__len__"), "__len__", "Sheet.__len__", defArgs s_Sheet_len, defBody s_Sheet_len, defScope s_Sheet_len, [], []⟩
def d_Sheet_eq : He.DefD := ⟨("Sheet", some "__eq__"), "__eq__", "Sheet.__eq__", defArgs s_Sheet_eq, defBody s_Sheet_eq, defScope s_Sheet_eq, [], []⟩
def fn : List He.DefD := [d_closure, d_is_name, d_is_integer, d_is_between, d_need_room, d_is_copy, d_place_in, d_is_bar, d_row_text, d_sheet_text, d_copies_text, d_need_copies, d_unfinished, d_ring_in, d_first_wrong, d_are_needs, d_need_rows, d_need_needs, d_law_pen, d_law_draw, d_law_names, d_law_needs, d_law_below, d_law_bars, d_law_size, d_law_keeps, d_law_is_keep, d_law_heard, d_law_refused_right, d_law_raised_right, d_law, d_InvalidPasses_init, d_NotMoved_init, d_TooMany_init, d_Keep_init, d_Keep_eq, d_Keep_raised, d_Sheet_init, d_Sheet_fill, d_Sheet_contains, d_Sheet_len, d_Sheet_eq]
/-- a property's getter, a classmethod's def: where it stands -/
structure GetD where
  cls : Str
  m : Str
  kind : String
  name : Str
  qual : Str
  params : Arguments
  body : List Stmt
  scope : Scope
def g_Keep_of : GetD := ⟨"Keep", "of", "classmethod", "of", "Keep.of", defArgs s_Keep_of, defBody s_Keep_of, defScope s_Keep_of⟩
def g_Keep_sheet : GetD := ⟨"Keep", "sheet", "property", "sheet", "Keep.sheet", defArgs s_Keep_sheet, defBody s_Keep_sheet, defScope s_Keep_sheet⟩
def g_Keep_span : GetD := ⟨"Keep", "span", "property", "span", "Keep.span", defArgs s_Keep_span, defBody s_Keep_span, defScope s_Keep_span⟩
def g_Keep_copies : GetD := ⟨"Keep", "copies", "property", "copies", "Keep.copies", defArgs s_Keep_copies, defBody s_Keep_copies, defScope s_Keep_copies⟩
def g_Keep_kept : GetD := ⟨"Keep", "kept", "property", "kept", "Keep.kept", defArgs s_Keep_kept, defBody s_Keep_kept, defScope s_Keep_kept⟩
def g_Keep_moved : GetD := ⟨"Keep", "moved", "property", "moved", "Keep.moved", defArgs s_Keep_moved, defBody s_Keep_moved, defScope s_Keep_moved⟩
def g_Sheet_of : GetD := ⟨"Sheet", "of", "classmethod", "of", "Sheet.of", defArgs s_Sheet_of, defBody s_Sheet_of, defScope s_Sheet_of⟩
def g_Sheet_rows : GetD := ⟨"Sheet", "rows", "property", "rows", "Sheet.rows", defArgs s_Sheet_rows, defBody s_Sheet_rows, defScope s_Sheet_rows⟩
def g_Sheet_needs : GetD := ⟨"Sheet", "needs", "property", "needs", "Sheet.needs", defArgs s_Sheet_needs, defBody s_Sheet_needs, defScope s_Sheet_needs⟩
def gn : List GetD := [g_Keep_of, g_Keep_sheet, g_Keep_span, g_Keep_copies, g_Keep_kept, g_Keep_moved, g_Sheet_of, g_Sheet_rows, g_Sheet_needs]
end K29
set_option Elab.async false
set_option linter.all false
set_option maxRecDepth 100000
set_option maxHeartbeats 4000000
/-! The head's Hook with getters and classmethods beside the layer's facts. -/
namespace K29
open PySem PySem.Spec PyProof.Rows L2
/-- where a getter (a classmethod's def) stands -/
def gAd (K : PySem.W.Frag) (d : GetD) : Addr := match PySem.W.recIn K (He.ma K (He.ga K d.cls) d.m) d.kind with
  | some (.ref g :: _) => g
  | _ => 0
def fnAt (K : PySem.W.Frag) (a : Addr) : He.FnW := match K.lookup a with
  | some ⟨_, _, .func z, _⟩ => some (z.name, z.qualname, z.params, z.body, z.scope, z.globals, z.closure, z.builtins)
  | _ => none
def GetD.val (d : GetD) : He.FnW := some (d.name, d.qual, d.params, .stmts d.body, d.scope, mainGlobals, [], builtinsNs)
def GetD.ok (K : PySem.W.Frag) (d : GetD) : Bool := PySem.W.keepIn K (.ref (gAd K d)) && match K.lookup (gAd K d) with
  | some ⟨_, _, .func z, _⟩ => PySem.W.codeIn K z.code d.qual && He.dflB K z.defaults []
  | _ => false
theorem getD_fun {K : PySem.W.Frag} {d : GetD} (hv : fnAt K (gAd K d) = d.val) (hb : d.ok K = true) : ∃ fd, FunD K d.name d.qual d.params d.body d.scope [] [] (gAd K d) fd := by
  obtain ⟨hk, hb⟩ := He.ba hb
  unfold fnAt at hv
  generalize ea : gAd K d = a at *
  cases hl : K.lookup a with
  | none => rw [hl] at hb; cases hb
  | some ob =>
    rw [hl] at hb hv
    rcases ob with ⟨oc, od, dt, sl⟩
    cases dt with
    | func z =>
      rcases z with ⟨z1, z2, z3, z4, z5, z6, z7, z8, z9, z10, z11, z12, z13, z14, z15⟩
      have hv' : (some (z1, z2, z3, z4, z5, z6, z7, z15) : He.FnW) = d.val := hv
      unfold GetD.val at hv'
      simp only [Option.some.injEq, Prod.mk.injEq] at hv'
      rcases hv' with ⟨rfl, rfl, rfl, rfl, rfl, rfl, rfl, rfl⟩
      have hb' : (PySem.W.codeIn K z13 d.qual && He.dflB K z8 []) = true := hb
      obtain ⟨h1, h2⟩ := He.ba hb'
      exact ⟨_, ⟨⟨oc, od, z8, z9, z10, z11, z12, z13, z14, sl, rfl, hl, h1, He.dflB_ok h2, .inl rfl⟩, hk⟩⟩
    | _ => cases hb
/-- what an object of the top names, as far as it is looked at -/
def refsZ (o : Obj) : List Addr := match o.data with
  | .func z => He.refV z.code ++ (He.refV z.defaults ++ He.refV z.kwdefaults)
  | .cls z => z.ns :: z.mro.flatMap He.refV
  | .dict es _ => es.toList.flatMap fun e => He.refV e.val
  | .fields vs => (match o.cls with
    | .type t => if t = "property" ∨ t = "classmethod" then vs.toList.flatMap He.refV else []
    | _ => [])
  | _ => []
def nextZ (g : Addr → Option Obj) (as : List Addr) : List Addr := as.flatMap fun a => match g a with
  | some o => refsZ o
  | none => []
def fromZ (g : Addr → Option Obj) : Nat → List Addr → List Addr
  | 0, l => l
  | n + 1, l => l ++ fromZ g n (nextZ g l)
def frZ (g : Addr → Option Obj) : PySem.W.Frag := He.frT g (fromZ g 5 [mainGlobals, cStatics])
abbrev AlZ : Type := He.AlD × Bool × List He.FnW
def obsZ (fa : List He.Fa) (fn : List He.DefD) (gn : List GetD) (tf : List He.Defn) (ex : PySem.W.Frag → Bool) (g : Addr → Option Obj) : AlZ :=
  (He.obsD fa fn (frZ g), (ex (frZ g) && gn.all fun d => d.ok (frZ g)) && He.tabsB g tf (frZ g), gn.map fun d => fnAt (frZ g) (gAd (frZ g) d))
def valZ (fn : List He.DefD) (gn : List GetD) : AlZ := (He.valD fn, true, gn.map GetD.val)
structure SaysZ (fa : List He.Fa) (fn : List He.DefD) (gn : List GetD) (tf : List He.Defn) (ex : PySem.W.Frag → Bool) (h : Heap) (K : PySem.W.Frag) : Prop where
  d : He.SaysD fa fn K
  e : ex K = true
  go : ∀ d ∈ gn, GetD.ok K d = true
  gv : gn.map (fun d => fnAt K (gAd K d)) = gn.map GetD.val
  tb : ∀ p ∈ tf, PySem.W.codeHdIn K (He.cT K p).1 (He.cT K p).2 = true ∧ K.lookup (He.cT K p).2 = none ∧ h.get? (He.cT K p).2 = some { cls := .none, data := .fields #[] }
theorem says_of {fa : List He.Fa} {fn : List He.DefD} {gn : List GetD} {tf : List He.Defn} {ex : PySem.W.Frag → Bool} {h : Heap} (e : obsZ fa fn gn tf ex h.get? = valZ fn gn) : SaysZ fa fn gn tf ex h (frZ h.get?) := by
  have e2 : ((ex (frZ h.get?) && gn.all fun d => d.ok (frZ h.get?)) && He.tabsB h.get? tf (frZ h.get?)) = true := congrArg (fun z : AlZ => z.2.1) e
  obtain ⟨e3, e4⟩ := He.ba e2
  obtain ⟨e5, e6⟩ := He.ba e3
  refine ⟨congrArg (fun z : AlZ => z.1) e, e5, List.all_eq_true.mp e6, congrArg (fun z : AlZ => z.2.2) e, fun p hp => ?_⟩
  obtain ⟨a1, a2⟩ := He.ba (List.all_eq_true.mp e4 p hp)
  revert a2
  cases q : h.get? (He.cT (frZ h.get?) p).2 with
  | none => exact fun z => nomatch z
  | some o =>
    intro z
    have z' : He.emptyTab o = true := z
    exact ⟨a1, He.frT_none q z', by rw [He.emptyTab_eq z']⟩
def hookZ (fa : List He.Fa) (fn : List He.DefD) (gn : List GetD) (tf : List He.Defn) (ex : PySem.W.Frag → Bool) : PySem.W.Hook where
  α := AlZ
  obs := fun s => obsZ fa fn gn tf ex s.heap.get?
  val := fun _ => valZ fn gn
  says := fun _ h => ∃ K : PySem.W.Frag, K.In h ∧ SaysZ fa fn gn tf ex h K
  of := fun _ _ e => ⟨_, He.frT_in, says_of e⟩
  keeps := fun _ _ _ ⟨K, hK, c⟩ k => ⟨K, PySem.W.Frag.In.keeps hK k, ⟨c.d, c.e, c.go, c.gv, fun p hp => ⟨(c.tb p hp).1, (c.tb p hp).2.1, k _ _ (c.tb p hp).2.2⟩⟩⟩
theorem obsZ_eq {fa : List He.Fa} {fn : List He.DefD} {gn : List GetD} {tf : List He.Defn} {ex : PySem.W.Frag → Bool} {g : Addr → Option Obj} {s : Shared} (h : ∀ a, g a = s.heap.get? a) : obsZ fa fn gn tf ex g = (hookZ fa fn gn tf ex).obs s := by
  obtain rfl : g = s.heap.get? := funext h
  rfl
section
variable {fa : List He.Fa} {fn : List He.DefD} {gn : List GetD} {tf : List He.Defn} {ex : PySem.W.Frag → Bool} {h : Heap} {K : PySem.W.Frag}
theorem SaysZ.get (c : SaysZ fa fn gn tf ex h K) {d : GetD} (hd : d ∈ gn) : ∃ fd, FunD K d.name d.qual d.params d.body d.scope [] [] (gAd K d) fd := by
  refine getD_fun ?_ (c.go d hd)
  obtain ⟨i, hi, e⟩ := List.mem_iff_getElem.mp hd
  have z : (gn.map fun d => fnAt K (gAd K d))[i]? = (gn.map GetD.val)[i]? := by rw [c.gv]
  rw [List.getElem?_map, List.getElem?_map, List.getElem?_eq_getElem hi, e] at z
  exact Option.some.inj z
end
end K29
set_option Elab.async false
set_option linter.all false
set_option maxRecDepth 100000
set_option maxHeartbeats 4000000
/-! What the head tells of the text: printed by gen_tx.py. -/
namespace K29
open PySem PySem.Spec PyProof.Rows L2
/-! ### Bool facts of the written part -/
def opV (a b : Option (Option Value)) : Bool := decide (a = b)
/-- a property -/
def propB (K : PySem.W.Frag) (d : GetD) : Bool :=
  opV (PySem.W.findIn K (.ref (He.ga K d.cls)) d.m) (some (some (.ref (He.ma K (He.ga K d.cls) d.m)))) &&
  (opV (PySem.W.specialIn K (.ref (He.ma K (He.ga K d.cls) d.m)) "__get__") (some (some (.builtin "property.__get__"))) &&
  (decide (PySem.W.takesIn K (.ref (He.ma K (He.ga K d.cls) d.m)) = some true) &&
  (match PySem.W.recIn K (He.ma K (He.ga K d.cls) d.m) "property" with
    | some (.ref g :: _) => decide (g = gAd K d)
    | _ => false)))
theorem propB_ok {K : PySem.W.Frag} {d : GetD} (h : propB K d = true) : PropOf K (He.ga K d.cls) d.m (He.ma K (He.ga K d.cls) d.m) (gAd K d) := by
  obtain ⟨h1, h⟩ := He.ba h
  obtain ⟨h2, h⟩ := He.ba h
  obtain ⟨h3, h4⟩ := He.ba h
  refine ⟨of_decide_eq_true h1, of_decide_eq_true h2, of_decide_eq_true h3, ?_⟩
  revert h4
  cases PySem.W.recIn K (He.ma K (He.ga K d.cls) d.m) "property" with
  | none => exact fun z => nomatch z
  | some l =>
    match l with
    | [] => exact fun z => nomatch z
    | u :: r =>
      cases u with
      | ref g => exact fun z => ⟨r, by rw [of_decide_eq_true z]⟩
      | _ => exact fun z => nomatch z
/-- a classmethod, read off its class -/
def cmB (K : PySem.W.Frag) (d : GetD) : Bool :=
  PySem.W.readsIn K (He.ga K d.cls) (.type "type") &&
  (opV (PySem.W.specialIn K (.ref (He.ga K d.cls)) "__getattribute__") (some (some (.builtin "type.__getattribute__"))) &&
  ((match PySem.W.findCls K (.ref (He.ga K d.cls)) (.type "type") d.m with
    | some (.get (.builtin b) (.ref q) .none (.ref C)) => decide (b = "classmethod.__get__") && (decide (q = He.ma K (He.ga K d.cls) d.m) && decide (C = He.ga K d.cls))
    | _ => false) &&
  ((match PySem.W.recIn K (He.ma K (He.ga K d.cls) d.m) "classmethod" with
    | some (.ref g :: _) => decide (g = gAd K d)
    | _ => false) && PySem.W.fnIn K (gAd K d))))
theorem cmB_ok {K : PySem.W.Frag} {d : GetD} (h : cmB K d = true) : ClX.CRead K (He.ga K d.cls) (.type "type") ∧ ClX.CMet K (He.ga K d.cls) (.type "type") d.m (He.ma K (He.ga K d.cls) d.m) (gAd K d) := by
  obtain ⟨h1, h⟩ := He.ba h
  obtain ⟨h2, h⟩ := He.ba h
  obtain ⟨h3, h⟩ := He.ba h
  obtain ⟨h4, h5⟩ := He.ba h
  refine ⟨⟨h1, of_decide_eq_true h2⟩, ?_, ?_, h5⟩
  · revert h3
    split
    · rename_i b q C e
      intro z
      obtain ⟨z1, z⟩ := He.ba z
      obtain ⟨z2, z3⟩ := He.ba z
      rw [e, of_decide_eq_true z1, of_decide_eq_true z2, of_decide_eq_true z3]
    · exact fun z => nomatch z
  · revert h4
    split
    · rename_i g r e
      exact fun z => ⟨r, by rw [e, of_decide_eq_true z]⟩
    · exact fun z => nomatch z
/-- what isinstance asks of a class's instances -/
structure IsC (K : PySem.W.Frag) (C : Addr) : Prop where
  ha : PySem.W.findIn K (.ref C) "__class__" = some (some (.builtin "object.__class__"))
  hn : PySem.W.specialIn K (.builtin "object.__class__") "__get__" = some (some (.builtin "getset_descriptor.__get__"))
  ht : PySem.W.takesIn K (.builtin "object.__class__") = some true
  hm : PySem.W.mroIn K C (.type "object") = some true
def isB (K : PySem.W.Frag) (x : Str) : Bool :=
  opV (PySem.W.findIn K (.ref (He.ga K x)) "__class__") (some (some (.builtin "object.__class__"))) &&
  (opV (PySem.W.specialIn K (.builtin "object.__class__") "__get__") (some (some (.builtin "getset_descriptor.__get__"))) &&
  (decide (PySem.W.takesIn K (.builtin "object.__class__") = some true) && decide (PySem.W.mroIn K (He.ga K x) (.type "object") = some true)))
theorem isB_ok {K : PySem.W.Frag} {x : Str} (h : isB K x = true) : IsC K (He.ga K x) := by
  obtain ⟨h1, h⟩ := He.ba h
  obtain ⟨h2, h⟩ := He.ba h
  obtain ⟨h3, h4⟩ := He.ba h
  exact ⟨of_decide_eq_true h1, of_decide_eq_true h2, of_decide_eq_true h3, of_decide_eq_true h4⟩
/-- an exception's class with an __init__ of its own: the mro behind it ends with tl -/
structure XcC (K : PySem.W.Frag) (tl : List Value) (nw : String) (C fI : Addr) (f : Str) : Prop where
  cls : ∃ nm q N bs bm sn sub ab col dd k0 k1 k2 k3 k5, K.lookup C = some (excClassObj nm q C N bs bm true sn sub ab col dd k0 k1 k2 k3 k5 nw) ∧ PySem.W.excTail tl bm = true
  over : PySem.W.excOver K C tl = true
  sa : PySem.W.findIn K (.ref C) "__setattr__" = some (some (.builtin "object.__setattr__"))
  noF : PySem.W.findIn K (.ref C) f = some none
  iC : PySem.W.findIn K (.ref C) "__init__" = some (some (.ref fI))
  tI : PySem.W.typeIn K (.ref fI) = some (.type "function")
  exC : PySem.W.subIn K (.ref C) (.type "BaseException") = some true
  tyC : PySem.W.typeIn K (.ref C) = some (.type "type")
  kC : PySem.W.keepIn K (.ref C) = true
def xcoB (K : PySem.W.Frag) (tl : List Value) (nw : String) (C : Addr) : Bool := match K.lookup C with
  | some ⟨.type t, _, .cls z, sl⟩ => decide (t = "type") && (z.hasDict && (!z.hasDel && ((match z.mro with
      | .ref C' :: bm => decide (C' = C) && PySem.W.excTail tl bm
      | _ => false) && (match sl.toList with
      | [_, _, _, _, some (.builtin n), _] => decide (n = nw)
      | _ => false))))
  | _ => false
theorem xcoB_ok {K : PySem.W.Frag} {tl : List Value} {nw : String} {C : Addr} (h : xcoB K tl nw C = true) : ∃ nm q N bs bm sn sub ab col dd k0 k1 k2 k3 k5, K.lookup C = some (excClassObj nm q C N bs bm true sn sub ab col dd k0 k1 k2 k3 k5 nw) ∧ PySem.W.excTail tl bm = true := by
  unfold xcoB at h
  split at h
  · rename_i t dd z sl e
    obtain ⟨h1, g1⟩ := He.ba h
    obtain ⟨h2, g2⟩ := He.ba g1
    obtain ⟨h3, g3⟩ := He.ba g2
    obtain ⟨h4, h5⟩ := He.ba g3
    clear g3 g2 g1 h
    rcases z with ⟨z1, z2, z3, z4, z5, z6, z7, z8, z9, z10, z11⟩
    dsimp only at h2 h3 h4
    cases z3 with
    | nil => cases h4
    | cons u bm =>
      cases u with
      | ref C' =>
        obtain ⟨h6, h7⟩ := He.ba h4
        obtain ⟨l⟩ := sl
        match l, h5, e with
        | [k0, k1, k2, k3, some (.builtin n), k5], h5, e =>
          have e1 := of_decide_eq_true h1
          have e6 := of_decide_eq_true h6
          have en : n = nw := of_decide_eq_true h5
          have h2' : z6 = true := h2
          have e3 : z11 = false := by cases z11 with | false => rfl | true => cases h3
          subst e1 h2' e6 en e3
          exact ⟨_, _, _, _, bm, _, _, _, _, _, k0, k1, k2, k3, k5, e, h7⟩
      | _ => cases h4
  · cases h
def xcB (K : PySem.W.Frag) (tl : List Value) (nw : String) (x f : Str) : Bool :=
  xcoB K tl nw (He.ga K x) && (PySem.W.excOver K (He.ga K x) tl && (opV (PySem.W.findIn K (.ref (He.ga K x)) "__setattr__") (some (some (.builtin "object.__setattr__"))) &&
  (opV (PySem.W.findIn K (.ref (He.ga K x)) f) (some none) && (opV (PySem.W.findIn K (.ref (He.ga K x)) "__init__") (some (some (.ref (He.ma K (He.ga K x) "__init__")))) &&
  (decide (PySem.W.typeIn K (.ref (He.ma K (He.ga K x) "__init__")) = some (.type "function")) && (decide (PySem.W.subIn K (.ref (He.ga K x)) (.type "BaseException") = some true) &&
  (decide (PySem.W.typeIn K (.ref (He.ga K x)) = some (.type "type")) && PySem.W.keepIn K (.ref (He.ga K x)))))))))
theorem xcB_ok {K : PySem.W.Frag} {tl : List Value} {nw : String} {x f : Str} (h : xcB K tl nw x f = true) : XcC K tl nw (He.ga K x) (He.ma K (He.ga K x) "__init__") f := by
  obtain ⟨h1, h⟩ := He.ba h
  obtain ⟨h9, h⟩ := He.ba h
  obtain ⟨h2, h⟩ := He.ba h
  obtain ⟨h3, h⟩ := He.ba h
  obtain ⟨h4, h⟩ := He.ba h
  obtain ⟨h5, h⟩ := He.ba h
  obtain ⟨h6, h⟩ := He.ba h
  obtain ⟨h7, h8⟩ := He.ba h
  exact ⟨xcoB_ok h1, h9, of_decide_eq_true h2, of_decide_eq_true h3, of_decide_eq_true h4, of_decide_eq_true h5, of_decide_eq_true h6, of_decide_eq_true h7, h8⟩
abbrev tlVE : List Value := [.type "ValueError", .type "Exception", .type "BaseException", .type "object"]
abbrev tlOE : List Value := [.type "OverflowError", .type "ArithmeticError", .type "Exception", .type "BaseException", .type "object"]
def exmB (K : PySem.W.Frag) (x y : Str) (b : Bool) : Bool := decide (PySem.W.exmOne K (.ref (He.ga K x)) (.ref (He.ga K y)) = some b)
def kitB (K : PySem.W.Frag) (x y : Str) (b : Bool) : Bool := decide (PySem.W.kitOne K (.ref (He.ga K x)) (.ref (He.ga K y)) = some b)
def excB (K : PySem.W.Frag) (x : Str) : Bool := xfB K (He.ga K x)
def tneB (K : PySem.W.Frag) (x y : Str) : Bool := decide ((He.cT K (x, none)).2 ≠ (He.cT K (y, none)).2)
/-! ### the facts -/
def fa : List He.Fa := [.glo "closure", .glo "is_name", .glo "is_integer", .glo "is_between", .glo "need_room", .glo "is_copy", .glo "place_in", .glo "is_bar", .glo "row_text", .glo "sheet_text", .glo "copies_text", .glo "need_copies", .glo "unfinished", .glo "ring_in", .glo "first_wrong", .glo "are_needs", .glo "need_rows", .glo "need_needs", .glo "_law_pen", .glo "_law_draw", .glo "_law_names", .glo "_law_needs", .glo "_law_below", .glo "_law_bars", .glo "_law_size", .glo "_law_keeps", .glo "_law_is_keep", .glo "_law_heard", .glo "_law_refused_right", .glo "_law_raised_right", .glo "law", .glo "Keep", .glo "Sheet", .glo "NotMoved", .glo "InvalidPasses", .glo "TooMany", .glo "PassError", .free "len", .free "isinstance", .free "all", .free "any", .free "tuple", .free "list", .free "dict", .free "enumerate", .free "sorted", .free "set", .free "max", .free "min", .free "abs", .free "int", .free "str", .free "bool", .free "repr", .free "range", .int "LONGEST_NAME" 8, .int "MOST_PASSES" 60, .int "LIMIT" 60, .str "LETTERS" "abcdefghijklmnopqrstuvwxyz", .str "NOTHING" "-", .cls "Keep", .mkr "Keep", .cls "Sheet", .mkr "Sheet", .noat "Keep" "base", .noat "Keep" "many", .noat "Keep" "order", .noat "Keep" "below", .noat "Keep" "by", .noat "Keep" "key", .noat "Keep" "shown", .noat "Sheet" "names", .noat "Sheet" "direct", .noat "Sheet" "order", .noat "Sheet" "shown", .meth "Keep" "raised", .meth "Keep" "__eq__", .meth "Keep" "__init__", .meth "Sheet" "fill", .meth "Sheet" "__contains__", .meth "Sheet" "__len__", .meth "Sheet" "__eq__", .meth "Sheet" "__init__"]
def exs (K : PySem.W.Frag) : List Bool := [cmB K g_Keep_of, propB K g_Keep_sheet, propB K g_Keep_span, propB K g_Keep_copies, propB K g_Keep_kept, propB K g_Keep_moved, cmB K g_Sheet_of, propB K g_Sheet_rows, propB K g_Sheet_needs, isB K "Keep", isB K "Sheet", isB K "NotMoved", xcB K tlVE "ValueError.__new__" "NotMoved" "name", excB K "NotMoved", xcB K tlVE "ValueError.__new__" "InvalidPasses" "value", excB K "InvalidPasses", xcB K tlOE "OverflowError.__new__" "TooMany" "limit", excB K "TooMany", exmB K "NotMoved" "NotMoved" true, exmB K "NotMoved" "InvalidPasses" false, exmB K "NotMoved" "TooMany" false, exmB K "InvalidPasses" "NotMoved" false, exmB K "InvalidPasses" "InvalidPasses" true, exmB K "InvalidPasses" "TooMany" false, exmB K "TooMany" "NotMoved" false, exmB K "TooMany" "InvalidPasses" false, exmB K "TooMany" "TooMany" true, kitB K "NotMoved" "PassError" true, kitB K "NotMoved" "InvalidPasses" false, tneB K "_law_refused_right" "_law_raised_right", tneB K "_law_refused_right" "law", tneB K "_law_raised_right" "law"]
def ex (K : PySem.W.Frag) : Bool := (exs K).all id
theorem exAt {K : PySem.W.Frag} (h : ex K = true) (i : Nat) {b : Bool} (e : (exs K)[i]? = some b) : b = true := List.all_eq_true.mp h b (List.mem_of_getElem? e)
def tf : List He.Defn := [("_law_refused_right", none), ("_law_raised_right", none), ("law", none)]
structure Tx (K : PySem.W.Frag) (mg : Str → Option Value) : Prop where
  g_closure : mg "closure" = some (.ref (He.ga K "closure"))
  g_is_name : mg "is_name" = some (.ref (He.ga K "is_name"))
  g_is_integer : mg "is_integer" = some (.ref (He.ga K "is_integer"))
  g_is_between : mg "is_between" = some (.ref (He.ga K "is_between"))
  g_need_room : mg "need_room" = some (.ref (He.ga K "need_room"))
  g_is_copy : mg "is_copy" = some (.ref (He.ga K "is_copy"))
  g_place_in : mg "place_in" = some (.ref (He.ga K "place_in"))
  g_is_bar : mg "is_bar" = some (.ref (He.ga K "is_bar"))
  g_row_text : mg "row_text" = some (.ref (He.ga K "row_text"))
  g_sheet_text : mg "sheet_text" = some (.ref (He.ga K "sheet_text"))
  g_copies_text : mg "copies_text" = some (.ref (He.ga K "copies_text"))
  g_need_copies : mg "need_copies" = some (.ref (He.ga K "need_copies"))
  g_unfinished : mg "unfinished" = some (.ref (He.ga K "unfinished"))
  g_ring_in : mg "ring_in" = some (.ref (He.ga K "ring_in"))
  g_first_wrong : mg "first_wrong" = some (.ref (He.ga K "first_wrong"))
  g_are_needs : mg "are_needs" = some (.ref (He.ga K "are_needs"))
  g_need_rows : mg "need_rows" = some (.ref (He.ga K "need_rows"))
  g_need_needs : mg "need_needs" = some (.ref (He.ga K "need_needs"))
  g_law_pen : mg "_law_pen" = some (.ref (He.ga K "_law_pen"))
  g_law_draw : mg "_law_draw" = some (.ref (He.ga K "_law_draw"))
  g_law_names : mg "_law_names" = some (.ref (He.ga K "_law_names"))
  g_law_needs : mg "_law_needs" = some (.ref (He.ga K "_law_needs"))
  g_law_below : mg "_law_below" = some (.ref (He.ga K "_law_below"))
  g_law_bars : mg "_law_bars" = some (.ref (He.ga K "_law_bars"))
  g_law_size : mg "_law_size" = some (.ref (He.ga K "_law_size"))
  g_law_keeps : mg "_law_keeps" = some (.ref (He.ga K "_law_keeps"))
  g_law_is_keep : mg "_law_is_keep" = some (.ref (He.ga K "_law_is_keep"))
  g_law_heard : mg "_law_heard" = some (.ref (He.ga K "_law_heard"))
  g_law_refused_right : mg "_law_refused_right" = some (.ref (He.ga K "_law_refused_right"))
  g_law_raised_right : mg "_law_raised_right" = some (.ref (He.ga K "_law_raised_right"))
  g_law : mg "law" = some (.ref (He.ga K "law"))
  g_Keep : mg "Keep" = some (.ref (He.ga K "Keep"))
  g_Sheet : mg "Sheet" = some (.ref (He.ga K "Sheet"))
  g_NotMoved : mg "NotMoved" = some (.ref (He.ga K "NotMoved"))
  g_InvalidPasses : mg "InvalidPasses" = some (.ref (He.ga K "InvalidPasses"))
  g_TooMany : mg "TooMany" = some (.ref (He.ga K "TooMany"))
  g_PassError : mg "PassError" = some (.ref (He.ga K "PassError"))
  f_len : mg "len" = none
  f_isinstance : mg "isinstance" = none
  f_all : mg "all" = none
  f_any : mg "any" = none
  f_tuple : mg "tuple" = none
  f_list : mg "list" = none
  f_dict : mg "dict" = none
  f_enumerate : mg "enumerate" = none
  f_sorted : mg "sorted" = none
  f_set : mg "set" = none
  f_max : mg "max" = none
  f_min : mg "min" = none
  f_abs : mg "abs" = none
  f_int : mg "int" = none
  f_str : mg "str" = none
  f_bool : mg "bool" = none
  f_repr : mg "repr" = none
  f_range : mg "range" = none
  i_LONGEST_NAME : ∃ t, mg "LONGEST_NAME" = some (.int 8 t)
  i_MOST_PASSES : ∃ t, mg "MOST_PASSES" = some (.int 60 t)
  i_LIMIT : ∃ t, mg "LIMIT" = some (.int 60 t)
  t_LETTERS : ∃ t, mg "LETTERS" = some (.str "abcdefghijklmnopqrstuvwxyz" t)
  t_NOTHING : ∃ t, mg "NOTHING" = some (.str "-" t)
  c_Keep : Cls K (He.ga K "Keep")
  mk_Keep : Mk K (He.ga K "Keep") (He.ma K (He.ga K "Keep") "__init__")
  c_Sheet : Cls K (He.ga K "Sheet")
  mk_Sheet : Mk K (He.ga K "Sheet") (He.ma K (He.ga K "Sheet") "__init__")
  n_Keep_base : NoAttr K (He.ga K "Keep") "base"
  n_Keep_many : NoAttr K (He.ga K "Keep") "many"
  n_Keep_order : NoAttr K (He.ga K "Keep") "order"
  n_Keep_below : NoAttr K (He.ga K "Keep") "below"
  n_Keep_by : NoAttr K (He.ga K "Keep") "by"
  n_Keep_key : NoAttr K (He.ga K "Keep") "key"
  n_Keep_shown : NoAttr K (He.ga K "Keep") "shown"
  n_Sheet_names : NoAttr K (He.ga K "Sheet") "names"
  n_Sheet_direct : NoAttr K (He.ga K "Sheet") "direct"
  n_Sheet_order : NoAttr K (He.ga K "Sheet") "order"
  n_Sheet_shown : NoAttr K (He.ga K "Sheet") "shown"
  m_Keep_raised : Meth K (He.ga K "Keep") "raised" (He.ma K (He.ga K "Keep") "raised")
  m_Keep_eq : Meth K (He.ga K "Keep") "__eq__" (He.ma K (He.ga K "Keep") "__eq__")
  m_Keep_init : Meth K (He.ga K "Keep") "__init__" (He.ma K (He.ga K "Keep") "__init__")
  m_Sheet_fill : Meth K (He.ga K "Sheet") "fill" (He.ma K (He.ga K "Sheet") "fill")
  m_Sheet_contains : Meth K (He.ga K "Sheet") "__contains__" (He.ma K (He.ga K "Sheet") "__contains__")
  m_Sheet_len : Meth K (He.ga K "Sheet") "__len__" (He.ma K (He.ga K "Sheet") "__len__")
  m_Sheet_eq : Meth K (He.ga K "Sheet") "__eq__" (He.ma K (He.ga K "Sheet") "__eq__")
  m_Sheet_init : Meth K (He.ga K "Sheet") "__init__" (He.ma K (He.ga K "Sheet") "__init__")
  d_closure : ∃ fd, FunD K d_closure.name d_closure.qual d_closure.params d_closure.body d_closure.scope [] [] (He.fAd K d_closure.at_) fd
  d_is_name : ∃ fd, FunD K d_is_name.name d_is_name.qual d_is_name.params d_is_name.body d_is_name.scope [] [] (He.fAd K d_is_name.at_) fd
  d_is_integer : ∃ fd, FunD K d_is_integer.name d_is_integer.qual d_is_integer.params d_is_integer.body d_is_integer.scope [] [] (He.fAd K d_is_integer.at_) fd
  d_is_between : ∃ fd, FunD K d_is_between.name d_is_between.qual d_is_between.params d_is_between.body d_is_between.scope [] [] (He.fAd K d_is_between.at_) fd
  d_need_room : ∃ fd, FunD K d_need_room.name d_need_room.qual d_need_room.params d_need_room.body d_need_room.scope [] [("most", .int 120)] (He.fAd K d_need_room.at_) fd
  d_is_copy : ∃ fd, FunD K d_is_copy.name d_is_copy.qual d_is_copy.params d_is_copy.body d_is_copy.scope [] [] (He.fAd K d_is_copy.at_) fd
  d_place_in : ∃ fd, FunD K d_place_in.name d_place_in.qual d_place_in.params d_place_in.body d_place_in.scope [] [] (He.fAd K d_place_in.at_) fd
  d_is_bar : ∃ fd, FunD K d_is_bar.name d_is_bar.qual d_is_bar.params d_is_bar.body d_is_bar.scope [] [] (He.fAd K d_is_bar.at_) fd
  d_row_text : ∃ fd, FunD K d_row_text.name d_row_text.qual d_row_text.params d_row_text.body d_row_text.scope [] [] (He.fAd K d_row_text.at_) fd
  d_sheet_text : ∃ fd, FunD K d_sheet_text.name d_sheet_text.qual d_sheet_text.params d_sheet_text.body d_sheet_text.scope [] [] (He.fAd K d_sheet_text.at_) fd
  d_copies_text : ∃ fd, FunD K d_copies_text.name d_copies_text.qual d_copies_text.params d_copies_text.body d_copies_text.scope [] [] (He.fAd K d_copies_text.at_) fd
  d_need_copies : ∃ fd, FunD K d_need_copies.name d_need_copies.qual d_need_copies.params d_need_copies.body d_need_copies.scope [] [] (He.fAd K d_need_copies.at_) fd
  d_unfinished : ∃ fd, FunD K d_unfinished.name d_unfinished.qual d_unfinished.params d_unfinished.body d_unfinished.scope [] [] (He.fAd K d_unfinished.at_) fd
  d_ring_in : ∃ fd, FunD K d_ring_in.name d_ring_in.qual d_ring_in.params d_ring_in.body d_ring_in.scope [] [] (He.fAd K d_ring_in.at_) fd
  d_first_wrong : ∃ fd, FunD K d_first_wrong.name d_first_wrong.qual d_first_wrong.params d_first_wrong.body d_first_wrong.scope [] [] (He.fAd K d_first_wrong.at_) fd
  d_are_needs : ∃ fd, FunD K d_are_needs.name d_are_needs.qual d_are_needs.params d_are_needs.body d_are_needs.scope [] [] (He.fAd K d_are_needs.at_) fd
  d_need_rows : ∃ fd, FunD K d_need_rows.name d_need_rows.qual d_need_rows.params d_need_rows.body d_need_rows.scope [] [] (He.fAd K d_need_rows.at_) fd
  d_need_needs : ∃ fd, FunD K d_need_needs.name d_need_needs.qual d_need_needs.params d_need_needs.body d_need_needs.scope [] [] (He.fAd K d_need_needs.at_) fd
  d_law_pen : ∃ fd, FunD K d_law_pen.name d_law_pen.qual d_law_pen.params d_law_pen.body d_law_pen.scope [] [] (He.fAd K d_law_pen.at_) fd
  d_law_draw : ∃ fd, FunD K d_law_draw.name d_law_draw.qual d_law_draw.params d_law_draw.body d_law_draw.scope [] [] (He.fAd K d_law_draw.at_) fd
  d_law_names : ∃ fd, FunD K d_law_names.name d_law_names.qual d_law_names.params d_law_names.body d_law_names.scope [] [] (He.fAd K d_law_names.at_) fd
  d_law_needs : ∃ fd, FunD K d_law_needs.name d_law_needs.qual d_law_needs.params d_law_needs.body d_law_needs.scope [] [] (He.fAd K d_law_needs.at_) fd
  d_law_below : ∃ fd, FunD K d_law_below.name d_law_below.qual d_law_below.params d_law_below.body d_law_below.scope [] [] (He.fAd K d_law_below.at_) fd
  d_law_bars : ∃ fd, FunD K d_law_bars.name d_law_bars.qual d_law_bars.params d_law_bars.body d_law_bars.scope [] [] (He.fAd K d_law_bars.at_) fd
  d_law_size : ∃ fd, FunD K d_law_size.name d_law_size.qual d_law_size.params d_law_size.body d_law_size.scope [] [] (He.fAd K d_law_size.at_) fd
  d_law_keeps : ∃ fd, FunD K d_law_keeps.name d_law_keeps.qual d_law_keeps.params d_law_keeps.body d_law_keeps.scope [] [] (He.fAd K d_law_keeps.at_) fd
  d_law_is_keep : ∃ fd, FunD K d_law_is_keep.name d_law_is_keep.qual d_law_is_keep.params d_law_is_keep.body d_law_is_keep.scope [] [] (He.fAd K d_law_is_keep.at_) fd
  d_law_heard : ∃ fd, FunD K d_law_heard.name d_law_heard.qual d_law_heard.params d_law_heard.body d_law_heard.scope [] [] (He.fAd K d_law_heard.at_) fd
  d_law_refused_right : ∃ fd, FunD K d_law_refused_right.name d_law_refused_right.qual d_law_refused_right.params d_law_refused_right.body d_law_refused_right.scope [] [] (He.fAd K d_law_refused_right.at_) fd
  d_law_raised_right : ∃ fd, FunD K d_law_raised_right.name d_law_raised_right.qual d_law_raised_right.params d_law_raised_right.body d_law_raised_right.scope [] [] (He.fAd K d_law_raised_right.at_) fd
  d_law : ∃ fd, FunD K d_law.name d_law.qual d_law.params d_law.body d_law.scope [] [] (He.fAd K d_law.at_) fd
  d_InvalidPasses_init : ∃ fd, FunD K d_InvalidPasses_init.name d_InvalidPasses_init.qual d_InvalidPasses_init.params d_InvalidPasses_init.body d_InvalidPasses_init.scope [] [] (He.fAd K d_InvalidPasses_init.at_) fd
  d_NotMoved_init : ∃ fd, FunD K d_NotMoved_init.name d_NotMoved_init.qual d_NotMoved_init.params d_NotMoved_init.body d_NotMoved_init.scope [] [] (He.fAd K d_NotMoved_init.at_) fd
  d_TooMany_init : ∃ fd, FunD K d_TooMany_init.name d_TooMany_init.qual d_TooMany_init.params d_TooMany_init.body d_TooMany_init.scope [] [] (He.fAd K d_TooMany_init.at_) fd
  d_Keep_init : ∃ fd, FunD K d_Keep_init.name d_Keep_init.qual d_Keep_init.params d_Keep_init.body d_Keep_init.scope [] [] (He.fAd K d_Keep_init.at_) fd
  d_Keep_eq : ∃ fd, FunD K d_Keep_eq.name d_Keep_eq.qual d_Keep_eq.params d_Keep_eq.body d_Keep_eq.scope [] [] (He.fAd K d_Keep_eq.at_) fd
  d_Keep_raised : ∃ fd, FunD K d_Keep_raised.name d_Keep_raised.qual d_Keep_raised.params d_Keep_raised.body d_Keep_raised.scope [] [] (He.fAd K d_Keep_raised.at_) fd
  d_Sheet_init : ∃ fd, FunD K d_Sheet_init.name d_Sheet_init.qual d_Sheet_init.params d_Sheet_init.body d_Sheet_init.scope [] [] (He.fAd K d_Sheet_init.at_) fd
  d_Sheet_fill : ∃ fd, FunD K d_Sheet_fill.name d_Sheet_fill.qual d_Sheet_fill.params d_Sheet_fill.body d_Sheet_fill.scope [] [] (He.fAd K d_Sheet_fill.at_) fd
  d_Sheet_contains : ∃ fd, FunD K d_Sheet_contains.name d_Sheet_contains.qual d_Sheet_contains.params d_Sheet_contains.body d_Sheet_contains.scope [] [] (He.fAd K d_Sheet_contains.at_) fd
  d_Sheet_len : ∃ fd, FunD K d_Sheet_len.name d_Sheet_len.qual d_Sheet_len.params d_Sheet_len.body d_Sheet_len.scope [] [] (He.fAd K d_Sheet_len.at_) fd
  d_Sheet_eq : ∃ fd, FunD K d_Sheet_eq.name d_Sheet_eq.qual d_Sheet_eq.params d_Sheet_eq.body d_Sheet_eq.scope [] [] (He.fAd K d_Sheet_eq.at_) fd
  dg_Keep_of : ∃ fd, FunD K g_Keep_of.name g_Keep_of.qual g_Keep_of.params g_Keep_of.body g_Keep_of.scope [] [] (gAd K g_Keep_of) fd
  dg_Keep_sheet : ∃ fd, FunD K g_Keep_sheet.name g_Keep_sheet.qual g_Keep_sheet.params g_Keep_sheet.body g_Keep_sheet.scope [] [] (gAd K g_Keep_sheet) fd
  dg_Keep_span : ∃ fd, FunD K g_Keep_span.name g_Keep_span.qual g_Keep_span.params g_Keep_span.body g_Keep_span.scope [] [] (gAd K g_Keep_span) fd
  dg_Keep_copies : ∃ fd, FunD K g_Keep_copies.name g_Keep_copies.qual g_Keep_copies.params g_Keep_copies.body g_Keep_copies.scope [] [] (gAd K g_Keep_copies) fd
  dg_Keep_kept : ∃ fd, FunD K g_Keep_kept.name g_Keep_kept.qual g_Keep_kept.params g_Keep_kept.body g_Keep_kept.scope [] [] (gAd K g_Keep_kept) fd
  dg_Keep_moved : ∃ fd, FunD K g_Keep_moved.name g_Keep_moved.qual g_Keep_moved.params g_Keep_moved.body g_Keep_moved.scope [] [] (gAd K g_Keep_moved) fd
  dg_Sheet_of : ∃ fd, FunD K g_Sheet_of.name g_Sheet_of.qual g_Sheet_of.params g_Sheet_of.body g_Sheet_of.scope [] [] (gAd K g_Sheet_of) fd
  dg_Sheet_rows : ∃ fd, FunD K g_Sheet_rows.name g_Sheet_rows.qual g_Sheet_rows.params g_Sheet_rows.body g_Sheet_rows.scope [] [] (gAd K g_Sheet_rows) fd
  dg_Sheet_needs : ∃ fd, FunD K g_Sheet_needs.name g_Sheet_needs.qual g_Sheet_needs.params g_Sheet_needs.body g_Sheet_needs.scope [] [] (gAd K g_Sheet_needs) fd
  cm_Keep_of : ClX.CRead K (He.ga K g_Keep_of.cls) (.type "type") ∧ ClX.CMet K (He.ga K g_Keep_of.cls) (.type "type") g_Keep_of.m (He.ma K (He.ga K g_Keep_of.cls) g_Keep_of.m) (gAd K g_Keep_of)
  p_Keep_sheet : PropOf K (He.ga K g_Keep_sheet.cls) g_Keep_sheet.m (He.ma K (He.ga K g_Keep_sheet.cls) g_Keep_sheet.m) (gAd K g_Keep_sheet)
  p_Keep_span : PropOf K (He.ga K g_Keep_span.cls) g_Keep_span.m (He.ma K (He.ga K g_Keep_span.cls) g_Keep_span.m) (gAd K g_Keep_span)
  p_Keep_copies : PropOf K (He.ga K g_Keep_copies.cls) g_Keep_copies.m (He.ma K (He.ga K g_Keep_copies.cls) g_Keep_copies.m) (gAd K g_Keep_copies)
  p_Keep_kept : PropOf K (He.ga K g_Keep_kept.cls) g_Keep_kept.m (He.ma K (He.ga K g_Keep_kept.cls) g_Keep_kept.m) (gAd K g_Keep_kept)
  p_Keep_moved : PropOf K (He.ga K g_Keep_moved.cls) g_Keep_moved.m (He.ma K (He.ga K g_Keep_moved.cls) g_Keep_moved.m) (gAd K g_Keep_moved)
  cm_Sheet_of : ClX.CRead K (He.ga K g_Sheet_of.cls) (.type "type") ∧ ClX.CMet K (He.ga K g_Sheet_of.cls) (.type "type") g_Sheet_of.m (He.ma K (He.ga K g_Sheet_of.cls) g_Sheet_of.m) (gAd K g_Sheet_of)
  p_Sheet_rows : PropOf K (He.ga K g_Sheet_rows.cls) g_Sheet_rows.m (He.ma K (He.ga K g_Sheet_rows.cls) g_Sheet_rows.m) (gAd K g_Sheet_rows)
  p_Sheet_needs : PropOf K (He.ga K g_Sheet_needs.cls) g_Sheet_needs.m (He.ma K (He.ga K g_Sheet_needs.cls) g_Sheet_needs.m) (gAd K g_Sheet_needs)
  is_Keep : IsC K (He.ga K "Keep")
  is_Sheet : IsC K (He.ga K "Sheet")
  is_NotMoved : IsC K (He.ga K "NotMoved")
  x_NotMoved : XcC K tlVE "ValueError.__new__" (He.ga K "NotMoved") (He.ma K (He.ga K "NotMoved") "__init__") "name"
  xf_NotMoved : XfC K (He.ga K "NotMoved")
  x_InvalidPasses : XcC K tlVE "ValueError.__new__" (He.ga K "InvalidPasses") (He.ma K (He.ga K "InvalidPasses") "__init__") "value"
  xf_InvalidPasses : XfC K (He.ga K "InvalidPasses")
  x_TooMany : XcC K tlOE "OverflowError.__new__" (He.ga K "TooMany") (He.ma K (He.ga K "TooMany") "__init__") "limit"
  xf_TooMany : XfC K (He.ga K "TooMany")
  em_NotMoved_NotMoved : PySem.W.exmOne K (.ref (He.ga K "NotMoved")) (.ref (He.ga K "NotMoved")) = some true
  em_NotMoved_InvalidPasses : PySem.W.exmOne K (.ref (He.ga K "NotMoved")) (.ref (He.ga K "InvalidPasses")) = some false
  em_NotMoved_TooMany : PySem.W.exmOne K (.ref (He.ga K "NotMoved")) (.ref (He.ga K "TooMany")) = some false
  em_InvalidPasses_NotMoved : PySem.W.exmOne K (.ref (He.ga K "InvalidPasses")) (.ref (He.ga K "NotMoved")) = some false
  em_InvalidPasses_InvalidPasses : PySem.W.exmOne K (.ref (He.ga K "InvalidPasses")) (.ref (He.ga K "InvalidPasses")) = some true
  em_InvalidPasses_TooMany : PySem.W.exmOne K (.ref (He.ga K "InvalidPasses")) (.ref (He.ga K "TooMany")) = some false
  em_TooMany_NotMoved : PySem.W.exmOne K (.ref (He.ga K "TooMany")) (.ref (He.ga K "NotMoved")) = some false
  em_TooMany_InvalidPasses : PySem.W.exmOne K (.ref (He.ga K "TooMany")) (.ref (He.ga K "InvalidPasses")) = some false
  em_TooMany_TooMany : PySem.W.exmOne K (.ref (He.ga K "TooMany")) (.ref (He.ga K "TooMany")) = some true
  ki_NotMoved_PassError : PySem.W.kitOne K (.ref (He.ga K "NotMoved")) (.ref (He.ga K "PassError")) = some true
  ki_NotMoved_InvalidPasses : PySem.W.kitOne K (.ref (He.ga K "NotMoved")) (.ref (He.ga K "InvalidPasses")) = some false
  tn_law_refused_right_law_raised_right : (He.cT K ("_law_refused_right", none)).2 ≠ (He.cT K ("_law_raised_right", none)).2
  tn_law_refused_right_law : (He.cT K ("_law_refused_right", none)).2 ≠ (He.cT K ("law", none)).2
  tn_law_raised_right_law : (He.cT K ("_law_raised_right", none)).2 ≠ (He.cT K ("law", none)).2
theorem tx_of {K : PySem.W.Frag} {mg : Str → Option Value} {h : Heap} (X : K.In h) (G : h.Ns mainGlobals mg) (c : SaysZ fa fn gn tf ex h K) : Tx K mg where
  g_closure := He.glo_ok X G (c.d.fact 0 (f := .glo "closure") rfl)
  g_is_name := He.glo_ok X G (c.d.fact 1 (f := .glo "is_name") rfl)
  g_is_integer := He.glo_ok X G (c.d.fact 2 (f := .glo "is_integer") rfl)
  g_is_between := He.glo_ok X G (c.d.fact 3 (f := .glo "is_between") rfl)
  g_need_room := He.glo_ok X G (c.d.fact 4 (f := .glo "need_room") rfl)
  g_is_copy := He.glo_ok X G (c.d.fact 5 (f := .glo "is_copy") rfl)
  g_place_in := He.glo_ok X G (c.d.fact 6 (f := .glo "place_in") rfl)
  g_is_bar := He.glo_ok X G (c.d.fact 7 (f := .glo "is_bar") rfl)
  g_row_text := He.glo_ok X G (c.d.fact 8 (f := .glo "row_text") rfl)
  g_sheet_text := He.glo_ok X G (c.d.fact 9 (f := .glo "sheet_text") rfl)
  g_copies_text := He.glo_ok X G (c.d.fact 10 (f := .glo "copies_text") rfl)
  g_need_copies := He.glo_ok X G (c.d.fact 11 (f := .glo "need_copies") rfl)
  g_unfinished := He.glo_ok X G (c.d.fact 12 (f := .glo "unfinished") rfl)
  g_ring_in := He.glo_ok X G (c.d.fact 13 (f := .glo "ring_in") rfl)
  g_first_wrong := He.glo_ok X G (c.d.fact 14 (f := .glo "first_wrong") rfl)
  g_are_needs := He.glo_ok X G (c.d.fact 15 (f := .glo "are_needs") rfl)
  g_need_rows := He.glo_ok X G (c.d.fact 16 (f := .glo "need_rows") rfl)
  g_need_needs := He.glo_ok X G (c.d.fact 17 (f := .glo "need_needs") rfl)
  g_law_pen := He.glo_ok X G (c.d.fact 18 (f := .glo "_law_pen") rfl)
  g_law_draw := He.glo_ok X G (c.d.fact 19 (f := .glo "_law_draw") rfl)
  g_law_names := He.glo_ok X G (c.d.fact 20 (f := .glo "_law_names") rfl)
  g_law_needs := He.glo_ok X G (c.d.fact 21 (f := .glo "_law_needs") rfl)
  g_law_below := He.glo_ok X G (c.d.fact 22 (f := .glo "_law_below") rfl)
  g_law_bars := He.glo_ok X G (c.d.fact 23 (f := .glo "_law_bars") rfl)
  g_law_size := He.glo_ok X G (c.d.fact 24 (f := .glo "_law_size") rfl)
  g_law_keeps := He.glo_ok X G (c.d.fact 25 (f := .glo "_law_keeps") rfl)
  g_law_is_keep := He.glo_ok X G (c.d.fact 26 (f := .glo "_law_is_keep") rfl)
  g_law_heard := He.glo_ok X G (c.d.fact 27 (f := .glo "_law_heard") rfl)
  g_law_refused_right := He.glo_ok X G (c.d.fact 28 (f := .glo "_law_refused_right") rfl)
  g_law_raised_right := He.glo_ok X G (c.d.fact 29 (f := .glo "_law_raised_right") rfl)
  g_law := He.glo_ok X G (c.d.fact 30 (f := .glo "law") rfl)
  g_Keep := He.glo_ok X G (c.d.fact 31 (f := .glo "Keep") rfl)
  g_Sheet := He.glo_ok X G (c.d.fact 32 (f := .glo "Sheet") rfl)
  g_NotMoved := He.glo_ok X G (c.d.fact 33 (f := .glo "NotMoved") rfl)
  g_InvalidPasses := He.glo_ok X G (c.d.fact 34 (f := .glo "InvalidPasses") rfl)
  g_TooMany := He.glo_ok X G (c.d.fact 35 (f := .glo "TooMany") rfl)
  g_PassError := He.glo_ok X G (c.d.fact 36 (f := .glo "PassError") rfl)
  f_len := He.free_ok X G (c.d.fact 37 (f := .free "len") rfl)
  f_isinstance := He.free_ok X G (c.d.fact 38 (f := .free "isinstance") rfl)
  f_all := He.free_ok X G (c.d.fact 39 (f := .free "all") rfl)
  f_any := He.free_ok X G (c.d.fact 40 (f := .free "any") rfl)
  f_tuple := He.free_ok X G (c.d.fact 41 (f := .free "tuple") rfl)
  f_list := He.free_ok X G (c.d.fact 42 (f := .free "list") rfl)
  f_dict := He.free_ok X G (c.d.fact 43 (f := .free "dict") rfl)
  f_enumerate := He.free_ok X G (c.d.fact 44 (f := .free "enumerate") rfl)
  f_sorted := He.free_ok X G (c.d.fact 45 (f := .free "sorted") rfl)
  f_set := He.free_ok X G (c.d.fact 46 (f := .free "set") rfl)
  f_max := He.free_ok X G (c.d.fact 47 (f := .free "max") rfl)
  f_min := He.free_ok X G (c.d.fact 48 (f := .free "min") rfl)
  f_abs := He.free_ok X G (c.d.fact 49 (f := .free "abs") rfl)
  f_int := He.free_ok X G (c.d.fact 50 (f := .free "int") rfl)
  f_str := He.free_ok X G (c.d.fact 51 (f := .free "str") rfl)
  f_bool := He.free_ok X G (c.d.fact 52 (f := .free "bool") rfl)
  f_repr := He.free_ok X G (c.d.fact 53 (f := .free "repr") rfl)
  f_range := He.free_ok X G (c.d.fact 54 (f := .free "range") rfl)
  i_LONGEST_NAME := He.int_ok X G (c.d.fact 55 (f := .int "LONGEST_NAME" 8) rfl)
  i_MOST_PASSES := He.int_ok X G (c.d.fact 56 (f := .int "MOST_PASSES" 60) rfl)
  i_LIMIT := He.int_ok X G (c.d.fact 57 (f := .int "LIMIT" 60) rfl)
  t_LETTERS := He.str_ok X G (c.d.fact 58 (f := .str "LETTERS" "abcdefghijklmnopqrstuvwxyz") rfl)
  t_NOTHING := He.str_ok X G (c.d.fact 59 (f := .str "NOTHING" "-") rfl)
  c_Keep := He.cls_ok (c.d.fact 60 (f := .cls "Keep") rfl)
  mk_Keep := He.mkr_ok (c.d.fact 61 (f := .mkr "Keep") rfl)
  c_Sheet := He.cls_ok (c.d.fact 62 (f := .cls "Sheet") rfl)
  mk_Sheet := He.mkr_ok (c.d.fact 63 (f := .mkr "Sheet") rfl)
  n_Keep_base := He.noat_ok (c.d.fact 64 (f := .noat "Keep" "base") rfl)
  n_Keep_many := He.noat_ok (c.d.fact 65 (f := .noat "Keep" "many") rfl)
  n_Keep_order := He.noat_ok (c.d.fact 66 (f := .noat "Keep" "order") rfl)
  n_Keep_below := He.noat_ok (c.d.fact 67 (f := .noat "Keep" "below") rfl)
  n_Keep_by := He.noat_ok (c.d.fact 68 (f := .noat "Keep" "by") rfl)
  n_Keep_key := He.noat_ok (c.d.fact 69 (f := .noat "Keep" "key") rfl)
  n_Keep_shown := He.noat_ok (c.d.fact 70 (f := .noat "Keep" "shown") rfl)
  n_Sheet_names := He.noat_ok (c.d.fact 71 (f := .noat "Sheet" "names") rfl)
  n_Sheet_direct := He.noat_ok (c.d.fact 72 (f := .noat "Sheet" "direct") rfl)
  n_Sheet_order := He.noat_ok (c.d.fact 73 (f := .noat "Sheet" "order") rfl)
  n_Sheet_shown := He.noat_ok (c.d.fact 74 (f := .noat "Sheet" "shown") rfl)
  m_Keep_raised := He.meth_ok (c.d.fact 75 (f := .meth "Keep" "raised") rfl)
  m_Keep_eq := He.meth_ok (c.d.fact 76 (f := .meth "Keep" "__eq__") rfl)
  m_Keep_init := He.meth_ok (c.d.fact 77 (f := .meth "Keep" "__init__") rfl)
  m_Sheet_fill := He.meth_ok (c.d.fact 78 (f := .meth "Sheet" "fill") rfl)
  m_Sheet_contains := He.meth_ok (c.d.fact 79 (f := .meth "Sheet" "__contains__") rfl)
  m_Sheet_len := He.meth_ok (c.d.fact 80 (f := .meth "Sheet" "__len__") rfl)
  m_Sheet_eq := He.meth_ok (c.d.fact 81 (f := .meth "Sheet" "__eq__") rfl)
  m_Sheet_init := He.meth_ok (c.d.fact 82 (f := .meth "Sheet" "__init__") rfl)
  d_closure := c.d.def_ 0 (d := d_closure) rfl
  d_is_name := c.d.def_ 1 (d := d_is_name) rfl
  d_is_integer := c.d.def_ 2 (d := d_is_integer) rfl
  d_is_between := c.d.def_ 3 (d := d_is_between) rfl
  d_need_room := c.d.def_ 4 (d := d_need_room) rfl
  d_is_copy := c.d.def_ 5 (d := d_is_copy) rfl
  d_place_in := c.d.def_ 6 (d := d_place_in) rfl
  d_is_bar := c.d.def_ 7 (d := d_is_bar) rfl
  d_row_text := c.d.def_ 8 (d := d_row_text) rfl
  d_sheet_text := c.d.def_ 9 (d := d_sheet_text) rfl
  d_copies_text := c.d.def_ 10 (d := d_copies_text) rfl
  d_need_copies := c.d.def_ 11 (d := d_need_copies) rfl
  d_unfinished := c.d.def_ 12 (d := d_unfinished) rfl
  d_ring_in := c.d.def_ 13 (d := d_ring_in) rfl
  d_first_wrong := c.d.def_ 14 (d := d_first_wrong) rfl
  d_are_needs := c.d.def_ 15 (d := d_are_needs) rfl
  d_need_rows := c.d.def_ 16 (d := d_need_rows) rfl
  d_need_needs := c.d.def_ 17 (d := d_need_needs) rfl
  d_law_pen := c.d.def_ 18 (d := d_law_pen) rfl
  d_law_draw := c.d.def_ 19 (d := d_law_draw) rfl
  d_law_names := c.d.def_ 20 (d := d_law_names) rfl
  d_law_needs := c.d.def_ 21 (d := d_law_needs) rfl
  d_law_below := c.d.def_ 22 (d := d_law_below) rfl
  d_law_bars := c.d.def_ 23 (d := d_law_bars) rfl
  d_law_size := c.d.def_ 24 (d := d_law_size) rfl
  d_law_keeps := c.d.def_ 25 (d := d_law_keeps) rfl
  d_law_is_keep := c.d.def_ 26 (d := d_law_is_keep) rfl
  d_law_heard := c.d.def_ 27 (d := d_law_heard) rfl
  d_law_refused_right := c.d.def_ 28 (d := d_law_refused_right) rfl
  d_law_raised_right := c.d.def_ 29 (d := d_law_raised_right) rfl
  d_law := c.d.def_ 30 (d := d_law) rfl
  d_InvalidPasses_init := c.d.def_ 31 (d := d_InvalidPasses_init) rfl
  d_NotMoved_init := c.d.def_ 32 (d := d_NotMoved_init) rfl
  d_TooMany_init := c.d.def_ 33 (d := d_TooMany_init) rfl
  d_Keep_init := c.d.def_ 34 (d := d_Keep_init) rfl
  d_Keep_eq := c.d.def_ 35 (d := d_Keep_eq) rfl
  d_Keep_raised := c.d.def_ 36 (d := d_Keep_raised) rfl
  d_Sheet_init := c.d.def_ 37 (d := d_Sheet_init) rfl
  d_Sheet_fill := c.d.def_ 38 (d := d_Sheet_fill) rfl
  d_Sheet_contains := c.d.def_ 39 (d := d_Sheet_contains) rfl
  d_Sheet_len := c.d.def_ 40 (d := d_Sheet_len) rfl
  d_Sheet_eq := c.d.def_ 41 (d := d_Sheet_eq) rfl
  dg_Keep_of := c.get (d := g_Keep_of) (List.mem_of_getElem? (i := 0) rfl)
  dg_Keep_sheet := c.get (d := g_Keep_sheet) (List.mem_of_getElem? (i := 1) rfl)
  dg_Keep_span := c.get (d := g_Keep_span) (List.mem_of_getElem? (i := 2) rfl)
  dg_Keep_copies := c.get (d := g_Keep_copies) (List.mem_of_getElem? (i := 3) rfl)
  dg_Keep_kept := c.get (d := g_Keep_kept) (List.mem_of_getElem? (i := 4) rfl)
  dg_Keep_moved := c.get (d := g_Keep_moved) (List.mem_of_getElem? (i := 5) rfl)
  dg_Sheet_of := c.get (d := g_Sheet_of) (List.mem_of_getElem? (i := 6) rfl)
  dg_Sheet_rows := c.get (d := g_Sheet_rows) (List.mem_of_getElem? (i := 7) rfl)
  dg_Sheet_needs := c.get (d := g_Sheet_needs) (List.mem_of_getElem? (i := 8) rfl)
  cm_Keep_of := cmB_ok (d := g_Keep_of) (exAt c.e 0 rfl)
  p_Keep_sheet := propB_ok (d := g_Keep_sheet) (exAt c.e 1 rfl)
  p_Keep_span := propB_ok (d := g_Keep_span) (exAt c.e 2 rfl)
  p_Keep_copies := propB_ok (d := g_Keep_copies) (exAt c.e 3 rfl)
  p_Keep_kept := propB_ok (d := g_Keep_kept) (exAt c.e 4 rfl)
  p_Keep_moved := propB_ok (d := g_Keep_moved) (exAt c.e 5 rfl)
  cm_Sheet_of := cmB_ok (d := g_Sheet_of) (exAt c.e 6 rfl)
  p_Sheet_rows := propB_ok (d := g_Sheet_rows) (exAt c.e 7 rfl)
  p_Sheet_needs := propB_ok (d := g_Sheet_needs) (exAt c.e 8 rfl)
  is_Keep := isB_ok (exAt c.e 9 rfl)
  is_Sheet := isB_ok (exAt c.e 10 rfl)
  is_NotMoved := isB_ok (exAt c.e 11 rfl)
  x_NotMoved := xcB_ok (exAt c.e 12 rfl)
  xf_NotMoved := xfB_ok (exAt c.e 13 rfl)
  x_InvalidPasses := xcB_ok (exAt c.e 14 rfl)
  xf_InvalidPasses := xfB_ok (exAt c.e 15 rfl)
  x_TooMany := xcB_ok (exAt c.e 16 rfl)
  xf_TooMany := xfB_ok (exAt c.e 17 rfl)
  em_NotMoved_NotMoved := of_decide_eq_true (exAt c.e 18 rfl)
  em_NotMoved_InvalidPasses := of_decide_eq_true (exAt c.e 19 rfl)
  em_NotMoved_TooMany := of_decide_eq_true (exAt c.e 20 rfl)
  em_InvalidPasses_NotMoved := of_decide_eq_true (exAt c.e 21 rfl)
  em_InvalidPasses_InvalidPasses := of_decide_eq_true (exAt c.e 22 rfl)
  em_InvalidPasses_TooMany := of_decide_eq_true (exAt c.e 23 rfl)
  em_TooMany_NotMoved := of_decide_eq_true (exAt c.e 24 rfl)
  em_TooMany_InvalidPasses := of_decide_eq_true (exAt c.e 25 rfl)
  em_TooMany_TooMany := of_decide_eq_true (exAt c.e 26 rfl)
  ki_NotMoved_PassError := of_decide_eq_true (exAt c.e 27 rfl)
  ki_NotMoved_InvalidPasses := of_decide_eq_true (exAt c.e 28 rfl)
  tn_law_refused_right_law_raised_right := of_decide_eq_true (exAt c.e 29 rfl)
  tn_law_refused_right_law := of_decide_eq_true (exAt c.e 30 rfl)
  tn_law_raised_right_law := of_decide_eq_true (exAt c.e 31 rfl)
end K29
set_option Elab.async false
set_option linter.all false
set_option maxRecDepth 100000
set_option maxHeartbeats 0
namespace K29
open PySem PySem.Spec PyProof.Rows L2
def loose1 : List Str := ["_wall", "closure", "PassError", "InvalidRow", "InvalidNeeds", "HasRing", "InvalidPasses", "InvalidCopy", "Barred", "NotMoved", "DifferentSheets", "InvalidText", "NoRow", "NoPosition", "TooMany", "LETTERS", "LONGEST_NAME", "is_name", "is_integer", "is_between", "is_index", "MOST_PASSES", "MOST_COPIES", "need_room", "is_copy", "place_in", "is_bar", "NOTHING", "row_text", "sheet_text"]
def loose2 : List Str := ["copies_text", "need_copies", "Keep", "MOST_ROWS", "lines_in", "row_in", "sheet_in", "unfinished", "ring_in", "LIMIT", "first_wrong", "are_needs", "need_rows", "need_needs", "Sheet", "_law_pen", "_law_draw", "_law_names", "_law_needs", "_law_below", "_law_bars", "_law_size", "_law_keeps", "_law_is_keep", "_law_heard", "_law_refused_right", "_law_raised_right"]
def loose : List Str := loose1 ++ loose2
abbrev R : PySem.W.OpenRow := PySem.W.OpenLaw.row PySem.Challenge.rw_passwidth_k29_whole_one_more_pass_keeps
abbrev hk : PySem.W.Hook := hookZ fa fn gn tf ex
def ob (s : PySem.W.SharedT) : AlZ := obsZ fa fn gn tf ex (HandSHeadRun.getT s)
theorem ob_eq (s : PySem.W.SharedT) : ob s = hk.obs s.abs := obsZ_eq (HandSHeadRun.getT_eq s)
theorem run (w : World) : HandSHeadRun.RunEq R (PySem.W.view R.prog [68]) hk ob 60000 loose w := by
  intro os
  kernel_rfl
end K29
set_option Elab.async false
set_option linter.all false
set_option maxRecDepth 100000
set_option maxHeartbeats 4000000
/-! Rules of our own over the layer. -/
namespace K29
open PySem PySem.Spec PyProof.Rows L2
section
variable {P : Program} {w : World} {K : PySem.W.Frag} {mg : Str → Option Value} {base : Heap}
/-- a def of the text, by its body; nothing raised leaves it -/
theorem fnr {x qual : Str} {params : Arguments} {body : List Stmt} {scope : Scope} {f : Addr} {N ps : List Str} {k : Nat} {sp : Sp}
    (F : ∃ fd, FunD K x qual params body scope [] [] f fd) (S : FnScope N ps scope)
    (hb : ∀ (kV doc pm : Value) (an : Option Addr) (cdv ct : Value) (us : List Value), us.length = ps.length → bindArgs (PySem.W.fnOf x qual params body scope .none kV doc pm an cdv ct) ⟨us, []⟩ = pure (ps.zip us))
    (len : ∀ vs H Q E, sp vs H Q E → vs.length = ps.length)
    (go : ∀ (cdv : Value) (A : Around) (outer : List Env) (s : Shared) (H : Hp) (vs : List V) (Q : VK) (E : XK), Room k (A.deeper (envOfC qual scope s.heap.objs.size f cdv)) → sp vs H Q E →
      ∃ t, PSs (cxOf CX0 P w K mg base N qual scope f cdv A outer s H E).nox body t ∧ t { nx := fun _ H' => Q .non H', rt := Q } (start N vs) H) :
    FnR P w K mg base CX0 (k + 1) f sp := by
  obtain ⟨fd, F⟩ := F
  have G : FnOk P w K mg base CX0 (k + 1) f fd ps sp := F.ok S len fun cdv A outer s H vs Q E hr h => by
    obtain ⟨t, h1, h2⟩ := go cdv A outer s H vs Q E hr h
    exact ⟨t, h1.nox, h2⟩
  exact (G.raw (F.bindsN hb) .nil).imp fun vs H Q E h => by
    rw [List.append_nil]
    exact h
/-- .. of a def that may raise -/
theorem fnx {x qual : Str} {params : Arguments} {body : List Stmt} {scope : Scope} {f : Addr} {N ps : List Str} {k : Nat} {sp : Sp}
    (F : ∃ fd, FunD K x qual params body scope [] [] f fd) (S : FnScope N ps scope)
    (hb : ∀ (kV doc pm : Value) (an : Option Addr) (cdv ct : Value) (us : List Value), us.length = ps.length → bindArgs (PySem.W.fnOf x qual params body scope .none kV doc pm an cdv ct) ⟨us, []⟩ = pure (ps.zip us))
    (len : ∀ vs H Q E, sp vs H Q E → vs.length = ps.length)
    (go : ∀ (cdv : Value) (A : Around) (outer : List Env) (s : Shared) (H : Hp) (vs : List V) (Q : VK) (E : XK), Room k (A.deeper (envOfC qual scope s.heap.objs.size f cdv)) → sp vs H Q E →
      ∃ t, PSs (cxOf (L2.CX P w) P w K mg base N qual scope f cdv A outer s H E) body t ∧ t { nx := fun _ H' => Q .non H', rt := Q } (start N vs) H) :
    FnR P w K mg base (L2.CX P w) (k + 1) f sp := by
  obtain ⟨fd, F⟩ := F
  have G : FnOk P w K mg base (L2.CX P w) (k + 1) f fd ps sp := F.ok S len fun cdv A outer s H vs Q E hr h => go cdv A outer s H vs Q E hr h
  exact (G.raw (F.bindsN hb) .nil).imp fun vs H Q E h => by
    rw [List.append_nil]
    exact h
end
/-! ### calls by positional promises -/
section
variable {X : Cx} {CX : CXT} {k : Nat} {f C : Addr} {sp : Sp} {E : XK} {x m : Str} {e o : Expr} {es : List Expr} {ta : TE} {t : TA} {p pos apos : Pos}
def tFn (sp : Sp) (E : XK) (t : TA) : TE := fun σ H Q => t σ H fun vs H1 => sp vs H1 Q E
theorem pe_fn (F : FnR X.prog X.w X.K X.mg X.base CX k f sp) (hr : Room k X.A) (hg : Gl X x) (hm : X.mg x = some (.ref f)) (hk : PySem.W.keepIn X.K (.ref f) = true) (hx : Passes CX X E) (ha : PA X (e :: es) t)
    (hd : (x == ("__debug__" : Str)) = false := by decide) (he : starEach (e :: es) X.env = (false, eval e X.env) :: starEach es X.env := by rfl)
    (hpl : (backTo pos (starEach es X.env)).any (·.1) = false := by rfl) : PE X (.Call (.Name x p) (e :: es) [] pos) (tFn sp E t) := by
  constructor
  intro pins s σ H Q I h
  refine wpAny_Call_Name_kw (ld_glob I hg hm ?_ hd)
  refine PySem.W.callWith_K (h₀ := X.base) I.ok.mod.kin hk (thn (ha.run pos pins s σ H _ I h) ?_) he hpl
  rintro us s1 ⟨vs, H1, I1, r, q⟩
  exact ⟨I1.kIn, wpAny_call (run_fnR F hr hx I1 r q)⟩
/-- e.f, a property whose getter keeps a positional promise -/
def tGet (C : Addr) (sp : Sp) (E : XK) (ta : TE) : TE := fun σ H Q => ta σ H fun y H1 => ∃ a dx fs, y = .ref a ∧ H1 a = some (.ins C dx fs) ∧ sp [.ref a] H1 Q E
theorem pe_get {g q : Addr} (he : PE X e ta) (c : Cls X.K C) (hp : PropOf X.K C m q g) (F : FnR X.prog X.w X.K X.mg X.base CX0 k g sp) (hr : Room (k + 1) X.A)
    (hab : attributeBase e m X.env (eval e X.env) = eval e X.env := by rfl) : PE X (.Attribute e m pos) (tGet C sp E ta) := by
  constructor
  intro pins s σ H Q I h
  refine attr_of hab (thn (he.run pins s σ H _ I h) ?_)
  rintro u s1 ⟨y, H1, I1, ry, a, dx, fs, ey, ea, z⟩
  subst ey
  obtain rfl : u = Value.ref a := ry
  obtain ⟨mA, O, _⟩ := ins_get I1.hok ea
  obtain ⟨od, J, _⟩ := O.look
  obtain ⟨rest, hrec⟩ := hp.rec_
  have I2 := I1.tok (s1.toks + 1)
  obtain ⟨cd, hcd, _⟩ := PySem.W.any_some c.hd
  have hc : (PySem.W.clsIn X.K C).isSome = true := by rw [hcd] <;> rfl
  have pg := PySem.W.plainGet_of (c.get m)
  refine PySem.W.get_bind I1.kIn J pg.1 (PySem.W.findObj_data hc hp.at_ hp.get hp.tak) pg.2 (wpAny_call (PySem.W.prop_get (s := { s1 with toks := s1.toks + 1 }) I1.kIn hrec ?_))
  refine codeAny_mono (F X.A.in1 X.stack { s1 with toks := s1.toks + 1 } H1 [.ref a] [.ref a] Q E hr.in1 I2.env0.in1 (.cons rfl .nil) z) ?_
  intro r s' hq
  match r, hq with
  | .ok (.ret u), hq =>
    obtain ⟨v, H', I3, rv, q3⟩ := I2.after hq
    show wpAny _ _ (handedOut u) _ _ _
    rw [PySem.W.handedOut_of (handed_of rv)]
    exact wpAny_pure ⟨v, H', I3, rv, q3⟩
/-- len(x), x an instance with a __len__ of its own -/
theorem call_lenO (hs : PySem.W.findIn X.K (.ref C) "__len__" = some (some (.ref f))) (hf : PySem.W.isFn X.K (.ref f) = true) (F : FnR X.prog X.w X.K X.mg X.base CX0 k f sp) (hr : Room (k + 1) X.A) :
    CallR X (.builtin "len") (fun xs H Q => ∃ a dx fs, xs = [.ref a] ∧ H a = some (.ins C dx fs) ∧ sp [.ref a] H (fun v H' => ∃ n : Int, v = .int n ∧ (0 ≤ n ∧ n < 2 ^ 63) ∧ Q (.int n) H') E) := by
  intro pins s σ H xs us Q I r h
  obtain ⟨a, dx, fs, rfl, ea, h⟩ := h
  obtain ⟨u, rfl, ru⟩ := r.one
  cases ru
  obtain ⟨mA, O, _⟩ := ins_get I.hok ea
  obtain ⟨od, J, _⟩ := O.look
  obtain ⟨m, hF⟩ := I.fr
  refine PySem.W.len_K hF I.ok.mod.kin J hs hf (wpAny_call (codeAny_mono (F X.A.in1 X.stack s H [.ref a] [.ref a] _ E hr.in1 I.env0.in1 (.cons rfl .nil) h) ?_))
  intro r s' hq
  match r, hq with
  | .ok (.ret u), hq =>
    obtain ⟨v, H', I3, rv, n, ev, hn, q3⟩ := I.after hq
    subst ev
    obtain ⟨t, rfl⟩ := rv
    exact ⟨hn, .int n, H', I3.tok _, ⟨_, rfl⟩, q3⟩
/-- x in y, y an instance with a __contains__ of its own that hands back a bool -/
theorem op_inO (hs : PySem.W.findIn X.K (.ref C) "__contains__" = some (some (.ref f))) (hf : PySem.W.isFn X.K (.ref f) = true) (F : FnR X.prog X.w X.K X.mg X.base CX0 k f sp) (hr : Room k X.A) :
    OpR X (compareOp .In) (fun x y H Q => ∃ a dx fs, y = .ref a ∧ H a = some (.ins C dx fs) ∧ sp [.ref a, x] H (fun v H' => ∃ b, v = .bl b ∧ Q (.bl b) H') E) := by
  intro pins s σ H x y v u Q I rx ry h
  obtain ⟨a, dx, fs, rfl, ea, h⟩ := h
  cases ry
  obtain ⟨mA, O, _⟩ := ins_get I.hok ea
  obtain ⟨od, J, _⟩ := O.look
  obtain ⟨m, hF⟩ := I.fr
  refine PySem.W.in_K hF I.ok.mod.kin J hs hf (wpAny_call (codeAny_mono (F X.A X.stack s H [.ref a, v] [.ref a, x] _ E hr I.env0 (.cons rfl (.cons rx .nil)) h) ?_))
  intro r s' hq
  match r, hq with
  | .ok (.ret u), hq =>
    obtain ⟨v, H', I3, rv, b, ev, q3⟩ := I.after hq
    subst ev
    cases rv
    exact wpAny_truthy_bool ⟨.bl b, H', I3, rfl, q3⟩
end
/-! ### (a, b) > (c, d) -/
section
variable {X : Cx}
def rGtP (K : PySem.W.Frag) : R2 := fun x y H Q => ∃ (a b : Addr) (i j k l : Int), x = .ref a ∧ y = .ref b ∧ H a = some (.tup [.int i, .int j]) ∧ H b = some (.tup [.int k, .int l]) ∧ Q (.bl (if i = k then decide (l < j) else decide (k < i))) H
theorem op_gtP (hu : X.A.units < cLine) : OpR X (compareOp .Gt) (rGtP X.K) := by
  intro pins s σ H x y v u Q I rx ry h
  obtain ⟨a, b, i, j, k, l, rfl, rfl, ha, hb, q⟩ := h
  cases rx
  cases ry
  obtain ⟨its, r1, p1, _⟩ := I.tuple (.of ha)
  obtain ⟨its2, r2, p2, _⟩ := I.tuple (.of hb)
  obtain ⟨u1, u2, rfl, q1, q2⟩ := vals2 r1
  obtain ⟨u3, u4, rfl, q3, q4⟩ := vals2 r2
  obtain ⟨t1, rfl⟩ := q1
  obtain ⟨t2, rfl⟩ := q2
  obtain ⟨t3, rfl⟩ := q3
  obtain ⟨t4, rfl⟩ := q4
  have R := Ob.RcOp.tuples_gt (A := X.A) (s := s) (e := fun n => if n = 0 then decide (i = k) else decide (j = l)) (r := fun n => if n = 0 then decide (k < i) else decide (l < j)) p1 p2 hu (fun n h1 h2 => by
    have h1' : n < 2 := by simpa using h1
    match n, h1' with
    | 0, _ => exact (Bool.beq_eq_decide_eq i k) ▸ SeqAt.EqAt.int_int i t1 k t3
    | 1, _ => exact (Bool.beq_eq_decide_eq j l) ▸ SeqAt.EqAt.int_int j t2 l t4) (fun n h1 h2 _ => by
    have h1' : n < 2 := by simpa using h1
    match n, h1' with
    | 0, _ => exact Ob.RcOp.gt_int _ _ _ _
    | 1, _ => exact Ob.RcOp.gt_int _ _ _ _)
  refine R X.prog X.w X.xe (EP X pins σ Q) ⟨.bl _, H, I, rfl, ?_⟩
  have e : Ob.lexAt (fun n => if n = 0 then decide (i = k) else decide (j = l)) (fun n => if n = 0 then decide (k < i) else decide (l < j)) (decide ((#[Value.int i t1, Value.int j t2] : Array Value).size > (#[Value.int k t3, Value.int l t4] : Array Value).size)) 0 2 = (if i = k then decide (l < j) else decide (k < i)) := by
    by_cases e1 : i = k
    · by_cases e2 : j = l
      · simp [Ob.lexAt, e1, e2]
      · simp [Ob.lexAt, e1, e2]
    · simp [Ob.lexAt, e1]
  exact e ▸ q
end
end K29
set_option Elab.async false
set_option linter.all false
set_option maxRecDepth 100000
set_option maxHeartbeats 4000000
/-! Small things: heaps that grow, what evaluates to what, dicts by text keys. -/
namespace K29
open PySem PySem.Spec PyProof.Rows L2 Evl
/-! ### heaps that grow -/
theorem big_lt {n : Nat} (h : n ≤ 100000) : n < sizeLine := Nat.lt_of_le_of_lt h (by decide)
theorem big_le {n : Nat} (h : n ≤ 100000) : n ≤ sizeLine := Nat.le_trans h (by decide)
/-! ### a value that is known by a property -/
def EvP (te : TE) (σ : L2.St) (H : Hp) (R : V → Hp → Prop) : Prop := ∀ H1, Ex H H1 → ∀ Q : VK, (∀ v H2, Ex H1 H2 → R v H2 → Q v H2) → te σ H1 Q
section
variable {K : PySem.W.Frag} {σ : L2.St} {H H' : Hp} {te ta tb : TE} {t : TA} {x y z v : V} {r : R2} {sp : Sp} {E : XK} {vs : List V} {tt : TT}
theorem Ev.here (h : Ev te σ H v) {Q : VK} (k : ∀ H2, Ex H H2 → Q v H2) : te σ H Q := h H (Ex.refl H) Q k
theorem EvT.here {b : Bool} (h : EvT tt σ H b) {Q : Bool → Hp → Prop} (k : ∀ H2, Ex H H2 → Q b H2) : tt σ H Q := h H (Ex.refl H) Q k
theorem EvP.here {R : V → Hp → Prop} (h : EvP te σ H R) {Q : VK} (k : ∀ v H2, Ex H H2 → R v H2 → Q v H2) : te σ H Q := h H (Ex.refl H) Q k
theorem EvL.here {xs : List V} (h : EvL te σ H xs) {Q : VK} (k : ∀ p H2, H p = none → Ex H H2 → H2 p = some (.lst xs) → Q (.ref p) H2) : te σ H Q := h H (Ex.refl H) Q k
theorem EvP.mono {R : V → Hp → Prop} (e : Ex H H') (h : EvP te σ H R) : EvP te σ H' R := fun H1 a Q q => h H1 (e.trans a) Q q
theorem Ev.p (h : Ev te σ H v) : EvP te σ H (fun u _ => u = v) := fun H1 e Q q => h H1 e Q fun H2 e2 => q v H2 e2 rfl
/-- a call that gives z -/
theorem ev_fn (h : EvA t σ H vs) (hs : ∀ H1, Ex H H1 → ∀ Q : VK, RetV z H1 Q → sp vs H1 Q E) : Ev (tFn sp E t) σ H z := fun H1 e Q q =>
  h H1 e _ fun H2 e2 => hs H2 (e.trans e2) Q fun H3 e3 => q H3 (e2.trans e3)
/-- what a promise that only makes objects gives back: a value of which R holds -/
def RetP (R : V → Hp → Prop) (H : Hp) (Q : VK) : Prop := ∀ u H2, Ex H H2 → R u H2 → Q u H2
theorem RetP.go {R : V → Hp → Prop} {Q : VK} (k : RetP R H Q) (e : Ex H H') : RetP R H' Q := fun u H2 e2 => k u H2 (e.trans e2)
theorem evp_fn {R : V → Hp → Prop} (h : EvA t σ H vs) (hs : ∀ H1, Ex H H1 → ∀ Q : VK, RetP R H1 Q → sp vs H1 Q E) : EvP (tFn sp E t) σ H R := fun H1 e Q q =>
  h H1 e _ fun H2 e2 => hs H2 (e.trans e2) Q fun u H3 e3 => q u H3 (e2.trans e3)
theorem ev_isi {c : V} {tv u : Value} {b : Bool} (hx : Ev ta σ H x) (hc : Ev tb σ H c) (k : ClsV c u) (ty : ∀ H1, Ex H H1 → TyX K H1 x tv) (e : PySem.W.kitOne K tv u = some b) : Ev (tCB (rIsi K) (tCons ta (tCons tb tNil))) σ H (.bl b) := fun H1 e1 Q q =>
  hx H1 e1 _ fun H2 e2 => hc H2 (e1.trans e2) _ fun H3 e3 => ⟨x, c, tv, u, b, rfl, k, ty H3 ((e1.trans e2).trans e3), e, q H3 (e2.trans e3)⟩
theorem ty_str {s : Str} : TyX K H (.str s) (.type "str") := .base (.str s)
theorem ty_int {i : Int} : TyX K H (.int i) (.type "int") := .base (.int i)
/-- a chain of two comparisons of ints -/
theorem ev_chain {tc : TE} {i j l : Int} {p q' : Int → Int → Bool} (ha : Ev ta σ H (.int i)) (hb : Ev tb σ H (.int j)) (hc : Ev tc σ H (.int l)) :
    Ev (tChain (rI0 fun a b => .bl (p a b)) (rI0 fun a b => .bl (q' a b)) ta tb tc) σ H (.bl (p i j && q' j l)) := fun H1 e Q q =>
  ha H1 e _ fun H2 e2 => hb H2 (e.trans e2) _ fun H3 e3 => ⟨i, j, rfl, rfl, p i j, rfl, by
    cases hp : p i j with
    | true =>
      rw [hp, Bool.true_and] at q
      show tc σ H3 _
      exact hc H3 ((e.trans e2).trans e3) _ fun H4 e4 => ⟨j, l, rfl, rfl, q H4 ((e2.trans e3).trans e4)⟩
    | false =>
      rw [hp, Bool.false_and] at q
      exact q H3 (e2.trans e3)⟩
theorem ev_len_str {s : Str} (h : Ev ta σ H (.str s)) (hl : s.length ≤ 100000) : Ev (tCB (fun xs H Q => ∃ z : Str, xs = [.str z] ∧ z.length ≤ sizeLine ∧ Q (.int z.length) H) (tCons ta tNil)) σ H (.int s.length) := fun H1 e Q q =>
  h H1 e _ fun H2 e2 => ⟨s, rfl, big_le hl, q H2 e2⟩
theorem ev_all {bs : List Bool} (h : EvL ta σ H (bs.map V.bl)) : Ev (tCB (rAll K) (tCons ta tNil)) σ H (.bl (bs.all id)) := fun H1 e Q q =>
  h H1 e _ fun p H2 _ e2 h2 => ⟨p, bs, rfl, sq_of h2, q H2 e2⟩
theorem ev_any {bs : List Bool} (h : EvL ta σ H (bs.map V.bl)) : Ev (tCB (rAny K) (tCons ta tNil)) σ H (.bl (bs.any id)) := fun H1 e Q q =>
  h H1 e _ fun p H2 _ e2 h2 => ⟨p, bs, rfl, sq_of h2, q H2 e2⟩
/-- a comprehension over any walk that stays: which turns give, and what -/
theorem el_lcW {J : It} {n : Nat} {G : Hp → Prop} {Y : Nat → Hp → V → Hp → Prop} {wi : TI} {g : TG} {vs : List Nat} (f : Nat → Bool) (v : Nat → V) (w : Walk J n G Y) (hn : n ≤ 40000)
    (hi : ∀ H1, Ex H H1 → ∀ R : It → Hp → Prop, (∀ H2, Ex H1 H2 → G H2 → R J H2) → wi σ H1 R) (hG : ∀ H1 H2, Ex H1 H2 → G H1 → G H2)
    (ht : ∀ (i : Nat) x H1 H2, Ex H H1 → Ex H1 H2 → i < n → G H1 → Y i H1 x H2 → ∀ R : L2.St → Hp → Prop, (∀ σ2 H3, Ex H1 H3 → wipe σ2 vs = wipe σ vs → EvT tt σ2 H3 (f i) → (f i = true → Ev te σ2 H3 (v i)) → R σ2 H3) → g x (wipe σ vs) H2 R)
    (hY : ∀ (i : Nat) x H1 H2, i < n → G H1 → Y i H1 x H2 → Ex H1 H2) : EvL (tLc wi g tt te vs) σ H (given n f v) := fun H0 e Q q =>
  hi H0 e _ fun H1 e1 g1 Dl hD => lc_it w (fun i H2 => Cw H1 f v Dl i H2) ⟨hD, Ex.new hD, upd_same⟩ (fun i H2 _ p => hG H1 H2 p.2.1 g1) (fun i x H2 H3 hi p y => by
    have g2 := hG H1 H2 p.2.1 g1
    have e3 := hY i x H2 H3 hi g2 y
    refine ht i x H2 H3 ((e.trans e1).trans p.2.1) e3 hi g2 y _ fun σ2 H4 e4 hw h1 h2 => ⟨hw, ?_⟩
    refine h1 H4 (Ex.refl H4) _ fun H5 e5 => ?_
    cases hf : f i with
    | true =>
      show te σ2 H5 _
      refine h2 hf H5 e5 _ fun H6 e6 => ⟨given i f v, e6 Dl _ (e5 Dl _ (e4 Dl _ p.2.2)), sz_lt (by have := given_len i f v; omega), p.1, Ex.mut (((p.2.1.trans e4).trans e5).trans e6) p.1, ?_⟩
      rw [given_yes hf]
      exact upd_same
    | false =>
      refine ⟨p.1, (p.2.1.trans e4).trans e5, ?_⟩
      rw [given_no hf]
      exact e5 Dl _ (e4 Dl _ p.2.2)) fun H2 p => q Dl H2 (fresh_back e1 p.1) (e1.trans p.2.1) p.2.2
/-- .. whose target is one name -/
theorem el_lcN {J : It} {n : Nat} {G : Hp → Prop} {Y : Nat → Hp → V → Hp → Prop} {wi : TI} {j : Nat} {vs : List Nat} (f : Nat → Bool) (v : Nat → V) (it : Nat → V) (w : Walk J n G Y) (hn : n ≤ 40000)
    (hi : ∀ H1, Ex H H1 → ∀ R : It → Hp → Prop, (∀ H2, Ex H1 H2 → G H2 → R J H2) → wi σ H1 R) (hG : ∀ H1 H2, Ex H1 H2 → G H1 → G H2)
    (hY : ∀ (i : Nat) x H1 H2, i < n → G H1 → Y i H1 x H2 → Ex H1 H2 ∧ x = it i) (hw : ∀ x, wipe ((wipe σ vs).set j (some x)) vs = wipe σ vs)
    (ht : ∀ (i : Nat) H1, Ex H H1 → i < n → G H1 → EvT tt ((wipe σ vs).set j (some (it i))) H1 (f i)) (he : ∀ (i : Nat) H1, Ex H H1 → i < n → G H1 → f i = true → Ev te ((wipe σ vs).set j (some (it i))) H1 (v i)) :
    EvL (tLc wi (gName j) tt te vs) σ H (given n f v) := el_lcW f v w hn hi hG (fun i x H1 H2 e e2 hi g y R k => by
      obtain ⟨e3, rfl⟩ := hY i x H1 H2 hi g y
      have g2 := hG H1 H2 e3 g
      exact k _ H2 e3 (hw _) (ht i H2 (e.trans e3) hi g2) fun hf => he i H2 (e.trans e3) hi g2 hf) fun i x H1 H2 hi g y => (hY i x H1 H2 hi g y).1
end
theorem given_all (n : Nat) (v : Nat → V) : given n (fun _ => true) v = (List.range n).map v := by
  unfold given
  rw [List.filter_eq_self.mpr fun _ _ => rfl]
/-- the i-th of a list of texts -/
theorem map_str_at {zs : List Str} {i : Nat} {x : V} (h : (zs.map V.str)[i]? = some x) : ∃ z, zs[i]? = some z ∧ x = .str z := by
  rw [List.getElem?_map] at h
  cases e : zs[i]? with
  | none => rw [e] at h; cases h
  | some z => rw [e] at h; exact ⟨z, rfl, (Option.some.inj h).symm⟩
end K29
set_option Elab.async false
set_option linter.all false
set_option maxRecDepth 100000
set_option maxHeartbeats 4000000
namespace K29
open PySem PySem.Spec PyProof.Rows L2 Evl
/-- a name: 1 to 8 letters -/
def IsName (z : Str) : Prop := 1 ≤ z.length ∧ z.length ≤ 8 ∧ ∀ c ∈ z.cps.toList, 97 ≤ c ∧ c ≤ 122
def letters : Str := "abcdefghijklmnopqrstuvwxyz"
theorem letters_mem : ∀ c : Nat, 97 ≤ c → c ≤ 122 → c ∈ letters.cps.toList := by
  intro c h1 h2
  have h : ∀ c : Fin 26, (c.val + 97) ∈ letters.cps.toList := by decide +kernel
  have e := h ⟨c - 97, by omega⟩
  have e2 : c - 97 + 97 = c := by omega
  rw [show ((⟨c - 97, by omega⟩ : Fin 26).val + 97) = c from e2] at e
  exact e
section
variable {P : Program} {w : World} {K : PySem.W.Frag} {mg : Str → Option Value} {base : Heap}
theorem cs_str : bootBuiltins ("str" : Str) = some (.type "str") := by decide +kernel
theorem cs_int : bootBuiltins ("int" : Str) = some (.type "int") := by decide +kernel
theorem cs_bool : bootBuiltins ("bool" : Str) = some (.type "bool") := by decide +kernel
theorem cs_tuple : bootBuiltins ("tuple" : Str) = some (.type "tuple") := by decide +kernel
theorem cs_list : bootBuiltins ("list" : Str) = some (.type "list") := by decide +kernel
theorem cs_dict : bootBuiltins ("dict" : Str) = some (.type "dict") := by decide +kernel
theorem bi_isinstance : bootBuiltins ("isinstance" : Str) = some (.builtin "isinstance") := by decide +kernel
theorem bi_all : bootBuiltins ("all" : Str) = some (.builtin "all") := by decide +kernel
theorem bi_any : bootBuiltins ("any" : Str) = some (.builtin "any") := by decide +kernel
theorem bi_max : bootBuiltins ("max" : Str) = some (.builtin "max") := by decide +kernel
theorem bi_min : bootBuiltins ("min" : Str) = some (.builtin "min") := by decide +kernel
theorem bi_abs : bootBuiltins ("abs" : Str) = some (.builtin "abs") := by decide +kernel
theorem bi_sorted : bootBuiltins ("sorted" : Str) = some (.builtin "sorted") := by decide +kernel
theorem bi_repr : bootBuiltins ("repr" : Str) = some (.builtin "repr") := by decide +kernel
/-! ### is_integer, is_between -/
theorem sc_is_integer : FnScope ["value"] ["value"] (defScope s_is_integer) := ⟨rfl, rfl, rfl, by decide +kernel, rfl, by decide +kernel, by decide +kernel⟩
def spIsInteger : Sp := fun vs H Q _ => ∃ i : Int, vs = [.int i] ∧ RetV (.bl true) H Q
theorem ok_is_integer (T : Tx K mg) : FnR P w K mg base CX0 1 (He.ga K "is_integer") spIsInteger := by
  refine fnr T.d_is_integer sc_is_integer (fun _ _ _ _ _ _ us hl => match us, hl with | [_], _ => rfl) (fun vs H Q E h => ?_) (fun cdv A outer s H vs Q E hr h => ?_)
  · obtain ⟨i, rfl, _⟩ := h
    rfl
  · obtain ⟨i, rfl, k⟩ := h
    refine ⟨_, pss_one (ps_ret (pe_and (pe_callB call_isi (by rfl) T.f_isinstance bi_isinstance (pa_cons (pv 0) (pa_cons (pe_bltn (by rfl) T.f_int cs_int (v := .ty "int") rfl) pa_nil)))
      (pe_one (pe_not (pe_callB call_isi (by rfl) T.f_isinstance bi_isinstance (pa_cons (pv 0) (pa_cons (pe_bltn (by rfl) T.f_bool cs_bool (v := .ty "bool") rfl) pa_nil))))))), ?_⟩
    exact s_ret (ev_andV (ev_isi (ev_var rfl) ev_c (.ty _) (fun _ _ => ty_int) (b := true) (kit_ty (by decide +kernel))) fun _ => ev_notV (ev_isi (ev_var rfl) ev_c (.ty _) (fun _ _ => ty_int) (b := false) (kit_ty (by decide +kernel)))) fun H1 e => k.go e
theorem sc_is_between : FnScope ["value", "least", "most"] ["value", "least", "most"] (defScope s_is_between) := ⟨rfl, rfl, rfl, by decide +kernel, rfl, by decide +kernel, by decide +kernel⟩
def spIsBetween : Sp := fun vs H Q _ => ∃ i a b : Int, vs = [.int i, .int a, .int b] ∧ RetV (.bl (decide (a ≤ i) && decide (i ≤ b))) H Q
theorem ok_is_between (T : Tx K mg) : FnR P w K mg base CX0 2 (He.ga K "is_between") spIsBetween := by
  have G := ok_is_integer (P := P) (w := w) (base := base) T
  obtain ⟨fd, D⟩ := T.d_is_integer
  refine fnr T.d_is_between sc_is_between (fun _ _ _ _ _ _ us hl => match us, hl with | [_, _, _], _ => rfl) (fun vs H Q E h => ?_) (fun cdv A outer s H vs Q E hr h => ?_)
  · obtain ⟨i, a, b, rfl, _⟩ := h
    rfl
  · obtain ⟨i, a, b, rfl, k⟩ := h
    refine ⟨_, pss_one (ps_ret (pe_and (pe_fn G hr (by rfl) T.g_is_integer D.kp pass0 (pa_cons (pv 0) pa_nil)) (pe_one (pe_chain op_le op_le (pv 1) (pv 0) (pv 2))))), ?_⟩
    refine s_ret (v := .bl (decide (a ≤ i) && decide (i ≤ b))) (ev_andV (a := true) (ev_fn (vs := [.int i]) (ea_cons (ev_var rfl) ea_nil) fun H1 e Q k => ⟨i, rfl, k⟩) fun _ => ev_chain (ev_var rfl) (ev_var rfl) (ev_var rfl)) fun H1 e => k.go e
/-! ### is_name -/
theorem sc_is_name : FnScope ["value", "letter"] ["value"] (defScope s_is_name) := ⟨rfl, rfl, rfl, by decide +kernel, rfl, by decide +kernel, by decide +kernel⟩
def spIsName : Sp := fun vs H Q _ => ∃ z : Str, vs = [.str z] ∧ IsName z ∧ RetV (.bl true) H Q
theorem ok_is_name (T : Tx K mg) : FnR P w K mg base CX0 1 (He.ga K "is_name") spIsName := by
  refine fnr T.d_is_name sc_is_name (fun _ _ _ _ _ _ us hl => match us, hl with | [_], _ => rfl) (fun vs H Q E h => ?_) (fun cdv A outer s H vs Q E hr h => ?_)
  · obtain ⟨i, rfl, _⟩ := h
    rfl
  · obtain ⟨z, rfl, hz, k⟩ := h
    obtain ⟨z1, z2, z3⟩ := hz
    obtain ⟨t1, g1⟩ := T.i_LONGEST_NAME
    obtain ⟨t2, g2⟩ := T.t_LETTERS
    refine ⟨_, pss_cons (ps_if (PW.pt (pw_or (pt_not (pt_val (pe_callB call_isi (by rfl) T.f_isinstance bi_isinstance (pa_cons (pv 0) (pa_cons (pe_bltn (by rfl) T.f_str cs_str (v := .ty "str") rfl) pa_nil)))))
        (pw_or1 (pt_not (pt_chain op_le op_le pe_int (pe_callB call_len_str (by rfl) T.f_len PySem.boot_len (pa_cons (pv 0) pa_nil)) (pe_glob (v := .int 8) (by rfl) g1 ⟨_, rfl⟩)))))) (pss_one (ps_ret pe_bl)) pss_nil)
      (pss_one (ps_ret (pe_callB (cr_all rfl) (by rfl) T.f_all bi_all (pa_cons (pe_lc (own := [("letter", 1)]) (g := gName 1) (by rfl) sc_is_name.nd (pi_str (pv 0)) (blkOk_by (own := [("letter", 1)]) (N := ["value", "letter"]) (sc := defScope s_is_name) (by decide +kernel))
        (fun _ _ _ _ _ => pg_name (i := 1) sc_is_name.nd rfl (Or.inl rfl)) (fun _ _ _ _ _ => pts_nil) (fun _ _ _ _ _ => pe_cmpR op_in_sign (pv 1) (pe_glob (v := .str letters) (by rfl) g2 ⟨_, rfl⟩) rfl)) pa_nil)))), ?_⟩
    refine q_when (b := false) (et_is (et_or (a := false) (et_is (et_not (et_B (ev_isi (ev_var rfl) ev_c (.ty _) (fun _ _ => ty_str) (b := true) (kit_ty (by decide +kernel))))) rfl)
      fun _ => et_not (et_test (ev_chain ev_c (ev_len_str (ev_var rfl) (by omega)) ev_c))) ?_) (fun h => by cases h) fun _ H1 e1 => ?_
    · have h1 : decide ((1 : Int) ≤ (z.length : Int)) = true := decide_eq_true (by omega)
      have h2 : decide ((z.length : Int) ≤ 8) = true := decide_eq_true (by omega)
      show (false || !(decide ((1 : Int) ≤ (z.length : Int)) && decide ((z.length : Int) ≤ 8))) = false
      rw [h1, h2]
      rfl
    · refine s_ret (v := .bl true) (ev_is (ev_all (bs := (List.range z.cps.size).map fun _ => true) ?_) ?_) fun H2 e2 => k.go (e1.trans e2)
      · have el := el_lcN (σ := [some (.str z), none]) (H := H1) (tt := tYes) (te := tOp (fun x y H Q => ∃ (c : Nat) (z : Str), x = .str ⟨#[c]⟩ ∧ y = .str z ∧ Q (.bl (decide (c ∈ z.cps.toList))) H) (tVar 1) (tC (.str letters)))
          (wi := iStr (tVar 0)) (j := 1) (vs := [1]) (fun _ => true) (fun _ => .bl true) (fun i => .str ⟨#[z.cps.getD i 0]⟩) walk_str (by have : z.cps.size = z.length := rfl; omega)
          (fun H1 e R k => ⟨.str z, rfl, z, rfl, k H1 (Ex.refl H1) trivial⟩) (fun _ _ _ h => h) (fun i x H1 H2 hi _ y => by
            obtain ⟨rfl, c, hc, rfl⟩ := y
            refine ⟨Ex.refl _, ?_⟩
            rw [Array.getD_eq_getD_getElem?, hc]
            rfl) (fun x => rfl) (fun i H1 e hi _ => fun H2 e2 Q k => k H2 (Ex.refl H2)) fun i H1 e hi _ _ => fun H2 e2 Q k => ?_
        · rw [given_all] at el
          rw [List.map_map]
          exact el
        · refine ⟨.str ⟨#[z.cps.getD i 0]⟩, rfl, z.cps.getD i 0, letters, rfl, rfl, ?_⟩
          have hm : z.cps.getD i 0 ∈ z.cps.toList := by
            rw [Array.getD_eq_getD_getElem?, Array.getElem?_eq_getElem hi]
            exact Array.mem_toList_iff.mpr (Array.getElem_mem hi)
          obtain ⟨b1, b2⟩ := z3 _ hm
          rw [decide_eq_true (letters_mem _ b1 b2)]
          exact k H2 (Ex.refl H2)
      · congr 1
        rw [List.all_eq_true]
        intro b hb
        obtain ⟨_, _, rfl⟩ := List.mem_map.mp hb
        rfl
end
end K29
set_option Elab.async false
set_option linter.all false
set_option maxRecDepth 100000
set_option maxHeartbeats 4000000
/-! Exception classes of the text whose __init__ stores one field, over any built-in base. -/
namespace K29
open PySem PySem.Spec PyProof.Rows L2 Evl
section
open Builtin Builtin.ObjectAttr
variable {prog : Program} {w : World} {A : Around} {R : Result → Shared → Prop} {hp : Heap} {g : Array GenState} {d : Drawn} {t : Nat} {os : OsState}
/-- the first store of a field -/
theorem xc_osa {K : PySem.W.Frag} {B : String} {tl : List Value} {name : Str} {tk : Tok} {v : Value} {x C : Addr} {fv : Array Value} {cd : ClassData} (SF : StoreFacts B tl "object.__setattr__" "object") (X : K.In hp)
    (hx : hp.get? x = some { cls := .ref C, data := .fields fv }) (hcd : PySem.W.clsIn K C = some cd) (hh : cd.hasDict = true) (ho : PySem.W.excOver K C tl = true) (hn : PySem.W.findIn K (.ref C) name = some none)
    (hq : ∀ h' tk' dx, (∀ b o, b ≠ x → hp.get? b = some o → h'.get? b = some o) → hp.objs.size ≤ dx → dx ≠ x → h'.get? x = some { cls := .ref C, dict := some dx, data := .fields fv } →
      h'.Ns1 dx (fun y => if y = name then some v else none) → R (.ok (.ret .none)) ⟨h', g, d, tk', os⟩) :
    codeAny (model prog w) A (.call (.builtin "object.__setattr__") ⟨[.ref x, .str name tk, v], []⟩) R ⟨hp, g, d, t, os⟩ := by
  have hxs : hp.objs.size ≠ x := Nat.ne_of_gt (Heap.lt_size hx)
  have taker : PySem.W.takerIn K C name = some none := by
    unfold PySem.W.takerIn
    rw [hn]
    rfl
  have Lc : PySem.W.Looks (model prog w) hp (classData C) cd := PySem.W.looks_clsIn X hcd
  refine PySem.W.osa_openX SF X (ox := { cls := .ref C, data := .fields fv }) (od := none) ⟨hx, rfl, rfl, trivial⟩ ho taker fun b => ?_
  show wpAny _ _ (storeInOwnDict (.ref x) (.ref C) (.str name tk) name v b) _ _ _
  rcases cd with ⟨c1, c2, c3, c4, c5, c6, c7, c8, c9, c10, c11⟩
  have hh' : c6 = true := hh
  subst hh'
  unfold storeInOwnDict ownDictForStores
  repeat (first | with_reducible refine PySem.HandSPX.store_in_new ?_ ?_ | with_reducible refine wpAny_loadPart_at hx ?_ | with_reducible refine Lc.at ?_ | wp_step)
  · exact ⟨_, #[], _, (Heap.get?_update_ne _ _ _ _ hxs).trans (Heap.get?_push_at rfl rfl), rfl, fun e he => absurd he (by simp), fun _ => rfl⟩
  · intro h' tk' ns sb
    have hx1 : (hp.push { cls := .type "dict", data := .dict #[] }).get? x = some { cls := .ref C, data := .fields fv } := Heap.get?_push_of_some _ hx
    refine hq h' tk' hp.objs.size (fun b o nb e => ?_) (Nat.le_refl _) hxs ((sb.2 x hxs.symm).trans (Heap.get?_update_self _ hx1 rfl)) ns
    have n1 : b ≠ hp.objs.size := Nat.ne_of_lt (Heap.lt_size e)
    exact (sb.2 b n1).trans ((Heap.get?_update_ne _ _ _ _ nb).trans (Heap.get?_push_of_some _ e))
end
section
variable {X : Cx} {pins : List (Addr × Obj)} {σ : L2.St} {H : Hp} {s : Shared} {a C fI : Addr} {f : Str} {y : V} {u : Value} {Q : Unit → Shared → Prop} {E : Value → Shared → Prop} {A : Around} {tl : List Value} {nw B : String}
theorem xst_new (T : XcC X.K tl nw C fI f) (SF : StoreFacts B tl "object.__setattr__" "object") (I : Inv X pins σ H s) (e : H a = some (exo a C none)) (ry : RelV y u)
    (h : ∀ dx s', H dx = none → dx ≠ a → Inv X pins σ (upd (upd H dx (exd dx [(f, y)])) a (exo a C (some dx))) s' → Q () s') : wpAny (model X.prog X.w) A (setAttr (.ref a) f u) Q E s := by
  obtain ⟨nm, q, N, bs, bm, sn, sub, ab, col, dd, k0, k1, k2, k3, k5, hC, _⟩ := T.cls
  have hcl : PySem.W.clsIn X.K C = some { name := nm, bases := bs, mro := .ref C :: bm, ns := N, qualname := q, hasDict := true, slotNames := sn, subclasses := sub, abstract := ab, collection := col, hasDel := false } := by
    unfold PySem.W.clsIn
    rw [hC] <;> rfl
  obtain ⟨t1, ho⟩ := exo_at I.hok e
  rcases s with ⟨hp, g, d, t, os⟩
  refine PySem.W.set_plain I.kIn (od := none) (ox := { cls := .ref C, dict := none, data := .fields #[.ref t1, .none, .none, .none, .bool false, .none] }) ⟨ho, rfl, rfl, trivial⟩ T.sa ?_
  refine xc_osa SF I.kIn ho hcl rfl T.over T.noF fun h' tk' dx k dn dne hx hn => ?_
  have fr : H dx = none := I.hok.fresh dn
  have far : ∀ {b : Addr} {o : Obj}, hp.get? b = some o → b ≠ dx := fun q => Nat.ne_of_lt (Nat.lt_of_lt_of_le (Heap.lt_size q) dn)
  have off : ∀ {b : Addr}, H b = none → b ≠ a := fun n z => by
    rw [z, e] at n
    cases n
  have un : Un X.fs [] H (upd (upd H dx (exd dx [(f, y)])) a (exo a C (some dx))) hp h' := by
    constructor
    · exact fun b o q n _ _ => k b o (off n) q
    · exact fun b o q n _ _ => ⟨o.slots, k b o (off n) q⟩
    · intro b o q n _
      rw [upd_ne (off n), upd_ne (far q)]
      exact n
    · intro b o q _
      by_cases z : b = a
      · subst z
        exact ⟨_, hx⟩
      · exact ⟨o, k b o z q⟩
    · intro b xs q
      rw [upd_ne (at_ne e q exo_tup), upd_ne (ne_of_none q fr)]
      exact q
    · intro b o v q
      rw [upd_ne (at_ne e q exo_frz), upd_ne (ne_of_none q fr)]
      exact q
    · intro b ps q
      exact ⟨#[], by rw [upd_ne (at_ne e q exo_tbl), upd_ne (ne_of_none q fr), q]; simp⟩
  refine h dx _ fr dne (I.un (t' := tk') un ?_)
  intro b o q
  by_cases z : b = a
  · subst z
    rw [upd_same] at q
    cases q
    exact exo_ok hx
  · rw [upd_ne z] at q
    by_cases z2 : b = dx
    · subst z2
      rw [upd_same] at q
      cases q
      exact exd_ok hn (relO_put (fs := []) ry fun _ => True.intro)
    · rw [upd_ne z2] at q
      have own_ne : ∀ {c : Addr}, H c = some (.own b) → c ≠ a := fun hc => at_ne e hc exo_own
      refine (I.hok b o q).stay (fun c v hc r => k c v ?_ r) (fun c hc => ?_) fun c xs hc => ?_
      · rcases hc with hc | hc
        · rw [hc]
          exact z
        · exact own_ne hc
      · rw [upd_ne (own_ne hc), upd_ne (ne_of_none hc fr)]
        exact hc
      · rw [upd_ne (at_ne e hc exo_tup), upd_ne (ne_of_none hc fr)]
        exact hc
/-- self.f = e, self an exception that is being made -/
def tXst (C : Addr) (f : Str) (to te : TE) : TS := fun D σ H => te σ H fun y H1 => to σ H1 fun x H2 => ∃ a : Addr, x = .ref a ∧ H2 a = some (exo a C none) ∧ ∀ dx, H2 dx = none → dx ≠ a → D.nx σ (upd (upd H2 dx (exd dx [(f, y)])) a (exo a C (some dx)))
theorem ps_xst {o e : Expr} {to te : TE} {p' pos : Pos} (T : XcC X.K tl nw C fI f) (SF : StoreFacts B tl "object.__setattr__" "object") (ho : PE X o to) (he : PE X e te) (hs : swapsWith e (some (.Attribute o f p')) pos.line X.env = pure false := by rfl) :
    PS X (.Assign [.Attribute o f p'] e pos) (tXst C f to te) := by
  constructor
  intro pins s σ H D I h
  refine plainObj_wpAny_Assign_Attribute (thn (he.run pins s σ H _ I h) ?_) hs
  rintro v s1 ⟨y, H1, I1, r1, q1⟩
  refine thn (ho.run pins s1 σ H1 _ I1 q1) ?_
  rintro u s2 ⟨x, H2, I2, r2, b, ex, ea, q⟩
  subst ex
  obtain rfl : u = Value.ref b := r2
  exact xst_new T SF I2 ea r1 fun dx s' n ne J => ⟨σ, _, J, q dx n ne⟩
/-- what such an __init__ promises -/
def spXI (C : Addr) (f : Str) : Sp := fun vs H Q _ => ∃ (a : Addr) (v : V), vs = [.ref a, v] ∧ H a = some (exo a C none) ∧ ∀ dx, H dx = none → dx ≠ a → Q .non (upd (upd H dx (exd dx [(f, v)])) a (exo a C (some dx)))
/-- C(e): the exception and its own dict -/
def tMkX (C : Addr) (f : Str) (ta : TA) : L2.St → Hp → XK → Prop := fun σ H Q => ta σ H fun vs H1 => ∃ v, vs = [v] ∧ ∀ d H2, H1 d = none → Ex H1 H2 → H2 d = some (.xd [(f, v)]) → Q (.ref C) (some d) H2
theorem pmk_xc {x : Str} {k : Nat} {e : Expr} {ta : TA} {p pos : Pos} {initId : String} (T : XcC X.K tl nw C fI f) (FB : ExcBaseFacts B nw initId tl) (G : FnR X.prog X.w X.K X.mg X.base CX0 k fI (spXI C f)) (hr : Room (k + 1) X.A) (hg : Gl X x) (hm : X.mg x = some (.ref C)) (ha : PA X [e] ta)
    (hdb : (x == ("__debug__" : Str)) = false := by decide) (hst : starEach (e :: []) X.env = (false, eval e X.env) :: starEach [] X.env := by rfl) : PMk X (.Call (.Name x p) [e] [] pos) (tMkX C f ta) := by
  intro pins s σ H Q I h
  obtain ⟨nm, q, N, bs, bm, sn, sub, ab, col, dd, k0, k1, k2, k3, k5, hC, hbm⟩ := T.cls
  refine wpAny_Call_Name_kw (ld_glob I hg hm ?_ hdb)
  refine PySem.W.callWith_K (h₀ := X.base) I.ok.mod.kin T.kC (thn (ha.run pos pins s σ H _ I h) ?_) hst (by rfl)
  rintro us s1 ⟨vs, H1, I1, r1, v, rfl, q1⟩
  refine ⟨I1.kIn, ?_⟩
  obtain ⟨u, rfl, ru⟩ := r1.one
  show wpAny _ _ (call (.ref C) [u]) _ _ _
  rcases s1 with ⟨hp, g, dr, tk, os⟩
  have sz : hp.objs.size ≤ hp.objs.size + 1 := Nat.le_succ _
  have nA : H1 (hp.objs.size + 1) = none := I1.hok.fresh sz
  have up2 : ∀ b o, hp.get? b = some o → ((hp.push (PySem.W.kdv_tup [u])).push (PySem.HandSPX.excO C hp.objs.size)).get? b = some o := fun b o e => Heap.get?_push_of_some _ (Heap.get?_push_of_some _ e)
  have atA : ((hp.push (PySem.W.kdv_tup [u])).push (PySem.HandSPX.excO C hp.objs.size)).get? (hp.objs.size + 1) = some (PySem.HandSPX.excO C hp.objs.size) := by heap_get
  have I2 : Inv X pins σ (upd H1 (hp.objs.size + 1) (exo (hp.objs.size + 1) C none)) ⟨(hp.push (PySem.W.kdv_tup [u])).push (PySem.HandSPX.excO C hp.objs.size), g, dr, tk, os⟩ :=
    I1.laid (t' := tk) up2 sz (exo_ok atA)
  have one : [u].length ≤ sizeLine := by
    rw [sizeLine_eq]
    exact (by decide : 1 ≤ 16777216)
  have go : spXI C f [V.ref (hp.objs.size + 1), v] (upd H1 (hp.objs.size + 1) (exo (hp.objs.size + 1) C none))
      (fun z H2 => z = .non ∧ ∃ dx, H1 dx = none ∧ dx ≠ hp.objs.size + 1 ∧ H2 = upd (upd (upd H1 (hp.objs.size + 1) (exo (hp.objs.size + 1) C none)) dx (exd dx [(f, v)])) (hp.objs.size + 1) (exo (hp.objs.size + 1) C (some dx))) (fun _ _ _ => False) :=
    ⟨_, v, rfl, upd_same, fun dx n ne => ⟨rfl, dx, by rw [upd_ne ne] at n; exact n, ne, rfl⟩⟩
  refine wpAny_call (PySem.HandSPX.call_own FB (fun Y => PySem.W.excTail_contains Y bm hbm) (I1.kIn _ _ hC) (PySem.W.looks_findIn I1.kIn T.iC) (fun self => PySem.W.bind_fn I1.kIn self T.tI) one
    (codeAny_mono (G _ X.stack _ _ [Value.ref (hp.objs.size + 1), u] _ _ _ (hr.make C [u] []) (I2.env0.make C [u] []) (.cons (show L2.RelV (V.ref (hp.objs.size + 1)) (Value.ref (hp.objs.size + 1)) from rfl) (.cons ru .nil)) go) ?_))
  intro r s' hq
  match r, hq with
  | .ok (.ret z), hq =>
    obtain ⟨zv, H2, os2, bare2, un2, hok2, rz, ez, dx, nd, ne, rfl⟩ := hq
    subst ez
    rcases s' with ⟨h2, g2, d2, t2, os'⟩
    refine ⟨rz, mk_end (raises_own T.exC T.tyC) I1 sz up2 un2 hok2 os2 bare2 upd_same (by rw [upd_ne ne, upd_same]) nd ?_⟩
    refine q1 dx _ nd (fun b o e => ?_) upd_same
    have n1 : b ≠ dx := ne_of_none e nd
    have n2 : b ≠ hp.objs.size + 1 := ne_of_none e nA
    rw [upd_ne n1, del_ne n2, upd_ne n2, upd_ne n1, upd_ne n2]
    exact e
end
end K29
set_option Elab.async false
set_option linter.all false
set_option maxRecDepth 100000
set_option maxHeartbeats 4000000
/-! What sheets, keeps and dicts look like in the heap. -/
namespace K29
open PySem PySem.Spec PyProof.Rows L2 Evl
/-! ### dicts by text keys -/
def dO (ks : List Str) (v : Str → V) : List (Key × V) := ks.map fun r => (Sum.inr r, v r)
theorem dO_len (ks : List Str) (v : Str → V) : (dO ks v).length = ks.length := List.length_map _
theorem valV_dO (v : Str → V) (r : Str) : ∀ ks : List Str, valV (dO ks v) (Sum.inr r) = if r ∈ ks then some (v r) else none
  | [] => rfl
  | a :: ks => by
    by_cases e : a = r
    · subst e
      rw [if_pos List.mem_cons_self]
      exact valV_pos (p := (Sum.inr a, v a)) rfl
    · have z : valV (dO (a :: ks) v) (Sum.inr r) = valV (dO ks v) (Sum.inr r) := valV_neg (p := ((Sum.inr a : Key), v a)) fun q => e (Sum.inr.inj q)
      rw [z, valV_dO v r ks]
      by_cases m : r ∈ ks
      · rw [if_pos m, if_pos (List.mem_cons_of_mem _ m)]
      · rw [if_neg m, if_neg fun q => (List.mem_cons.mp q).elim (fun q => e q.symm) m]
theorem dO_congr {ks : List Str} {v v' : Str → V} (h : ∀ r ∈ ks, v r = v' r) : dO ks v = dO ks v' := List.map_congr_left fun r hr => by rw [h r hr]
theorem putK_dO {ks : List Str} {v : Str → V} {r : Str} {x : V} (h : r ∉ ks) : putK (dO ks v) (Sum.inr r) x = dO (ks ++ [r]) (fun q => if q = r then x else v q) := by
  rw [putK_new _ (by rw [valV_dO, if_neg h])]
  unfold dO
  rw [List.map_append, List.map_cons, List.map_nil]
  dsimp only
  rw [if_pos rfl]
  congr 1
  exact List.map_congr_left fun q hq => by
    have ne : ¬ q = r := fun e => h (by rw [← e]; exact hq)
    rw [if_neg ne]
theorem isSome_dO {ks : List Str} {v : Str → V} {r : Str} : (valV (dO ks v) (Sum.inr r)).isSome = decide (r ∈ ks) := by
  rw [valV_dO]
  by_cases m : r ∈ ks
  · rw [if_pos m, decide_eq_true m] <;> rfl
  · rw [if_neg m, decide_eq_false m] <;> rfl
section
variable {K : PySem.W.Frag} {σ : L2.St} {H H' : Hp} {td ty ta tb : TE} {d : Addr} {ks : List Str} {v : Str → V} {r : Str}
theorem dget_s (h : Rd H d (.dK (dO ks v))) : DGet H d (.str r) (valV (dO ks v) (Sum.inr r)) := .inl ⟨_, Sum.inr r, h, rfl, rfl⟩
theorem ev_dget (hd : Ev td σ H (.ref d)) (hy : Ev ty σ H (.str r)) (h : Rd H d (.dK (dO ks v))) (hm : r ∈ ks) : Ev (tDGet td ty) σ H (v r) := fun H1 e Q q =>
  hd H1 e _ fun H2 e2 => hy H2 (e.trans e2) _ fun H3 e3 => by
    have z := dget_s (r := r) (ex_rd ((e.trans e2).trans e3) h)
    rw [valV_dO, if_pos hm] at z
    exact ⟨d, v r, rfl, z, q H3 (e2.trans e3)⟩
theorem ev_din (hy : Ev ty σ H (.str r)) (hd : Ev td σ H (.ref d)) (h : Rd H d (.dK (dO ks v))) : Ev (tDIn ty td) σ H (.bl (decide (r ∈ ks))) := fun H1 e Q q =>
  hy H1 e _ fun H2 e2 => hd H2 (e.trans e2) _ fun H3 e3 => by
    refine ⟨d, _, rfl, dget_s (r := r) (ex_rd ((e.trans e2).trans e3) h), ?_⟩
    rw [isSome_dO]
    exact q H3 (e2.trans e3)
theorem ev_dnin (hy : Ev ty σ H (.str r)) (hd : Ev td σ H (.ref d)) (h : Rd H d (.dK (dO ks v))) : Ev (tDNotIn ty td) σ H (.bl (!decide (r ∈ ks))) := fun H1 e Q q =>
  hy H1 e _ fun H2 e2 => hd H2 (e.trans e2) _ fun H3 e3 => by
    refine ⟨d, _, rfl, dget_s (r := r) (ex_rd ((e.trans e2).trans e3) h), ?_⟩
    rw [isSome_dO]
    exact q H3 (e2.trans e3)
theorem ev_fld {a C dx : Addr} {fs : List (Str × V)} {f : Str} {u : V} (ha : Ev ta σ H (.ref a)) (h : H a = some (.ins C dx fs)) (c : Cls K C) (n : NoAttr K C f) (l : fs.lookup f = some u) : Ev (tFld K ta f) σ H u := fun H1 e Q q =>
  ha H1 e _ fun H2 e2 => ⟨a, C, dx, fs, u, rfl, (e.trans e2) a _ h, c, n, l, q H2 e2⟩
theorem ev_get {a C dx : Addr} {fs : List (Str × V)} {sp : Sp} {E : XK} {u : V} (ha : Ev ta σ H (.ref a)) (h : H a = some (.ins C dx fs)) (k : ∀ H1, Ex H H1 → ∀ Q : VK, RetV u H1 Q → sp [.ref a] H1 Q E) : Ev (tGet C sp E ta) σ H u := fun H1 e Q q =>
  ha H1 e _ fun H2 e2 => ⟨a, dx, fs, rfl, (e.trans e2) a _ h, k H2 (e.trans e2) Q fun H3 e3 => q H3 (e2.trans e3)⟩
theorem evp_get {a C dx : Addr} {fs : List (Str × V)} {sp : Sp} {E : XK} {R : V → Hp → Prop} (ha : Ev ta σ H (.ref a)) (h : H a = some (.ins C dx fs)) (k : ∀ H1, Ex H H1 → ∀ Q : VK, RetP R H1 Q → sp [.ref a] H1 Q E) : EvP (tGet C sp E ta) σ H R := fun H1 e Q q =>
  ha H1 e _ fun H2 e2 => ⟨a, dx, fs, rfl, (e.trans e2) a _ h, k H2 (e.trans e2) Q fun u H3 e3 => q u H3 (e2.trans e3)⟩
end
/-! ### positions -/
def ix : List Str → Str → Nat
  | [], _ => 0
  | a :: l, r => if a = r then 0 else ix l r + 1
theorem ix_lt : ∀ {l : List Str} {r : Str}, r ∈ l → ix l r < l.length
  | [], _, h => by cases h
  | a :: l, r, h => by
    unfold ix
    by_cases e : a = r
    · rw [if_pos e]
      exact Nat.succ_pos _
    · rw [if_neg e]
      exact Nat.succ_lt_succ (ix_lt ((List.mem_cons.mp h).resolve_left fun q => e q.symm))
theorem ix_at : ∀ {l : List Str} {r : Str}, r ∈ l → l[ix l r]? = some r
  | [], _, h => by cases h
  | a :: l, r, h => by
    unfold ix
    by_cases e : a = r
    · rw [if_pos e, e]
      rfl
    · rw [if_neg e, List.getElem?_cons_succ]
      exact ix_at ((List.mem_cons.mp h).resolve_left fun q => e q.symm)
theorem ix_inj {l : List Str} {r q : Str} (hr : r ∈ l) (hq : q ∈ l) (e : ix l r = ix l q) : r = q := by
  have h1 := ix_at hr
  rw [e, ix_at hq] at h1
  exact (Option.some.inj h1).symm
theorem ix_of : ∀ {l : List Str} {i : Nat} {r : Str}, l.Nodup → l[i]? = some r → ix l r = i
  | [], _, _, _, h => by simp at h
  | a :: l, 0, r, _, h => by
    unfold ix
    rw [if_pos (Option.some.inj h)]
  | a :: l, i + 1, r, hn, h => by
    have h' : l[i]? = some r := by simpa using h
    have m : r ∈ l := List.mem_of_getElem? h'
    unfold ix
    have ne : ¬ a = r := fun e => (List.nodup_cons.mp hn).1 (by rw [e]; exact m)
    rw [if_neg ne, ix_of (List.nodup_cons.mp hn).2 h']
/-! ### sheets -/
def shF (n d o : Addr) (z : Str) : List (Str × V) := [("names", .ref n), ("direct", .ref d), ("order", .ref o), ("shown", .str z)]
theorem s_nd : (("direct" : Str) == "names") = false := by decide +kernel
theorem s_no : (("order" : Str) == "names") = false := by decide +kernel
theorem s_do : (("order" : Str) == "direct") = false := by decide +kernel
theorem shF_names {n d o : Addr} {z : Str} : (shF n d o z).lookup ("names" : Str) = some (V.ref n) := by simp [shF, List.lookup]
theorem shF_direct {n d o : Addr} {z : Str} : (shF n d o z).lookup ("direct" : Str) = some (V.ref d) := by simp [shF, List.lookup, s_nd]
theorem shF_order {n d o : Addr} {z : Str} : (shF n d o z).lookup ("order" : Str) = some (V.ref o) := by simp [shF, List.lookup, s_no, s_do]
/-- what a sheet holds, as far as a method that reads rows and needs asks -/
structure ShPart (H : Hp) (fs : List (Str × V)) (rows : List Str) (nd : Str → List Str) (n d : Addr) (ad : Str → Addr) : Prop where
  ln : fs.lookup ("names" : Str) = some (V.ref n)
  ld : fs.lookup ("direct" : Str) = some (V.ref d)
  hn : H n = some (.tup (rows.map V.str))
  hd : H d = some (.dK (dO rows fun r => .ref (ad r)))
  ha : ∀ r ∈ rows, H (ad r) = some (.tup ((nd r).map V.str))
theorem ShPart.ex {H H' : Hp} {fs : List (Str × V)} {rows : List Str} {nd : Str → List Str} {n d : Addr} {ad : Str → Addr} (S : ShPart H fs rows nd n d ad) (e : Ex H H') : ShPart H' fs rows nd n d ad :=
  ⟨S.ln, S.ld, e _ _ S.hn, e _ _ S.hd, fun r hr => e _ _ (S.ha r hr)⟩
/-- a sheet at a -/
structure ShAt (CS : Addr) (H : Hp) (a : Addr) (rows : List Str) (nd : Str → List Str) : Prop where
  ex_ : ∃ dx n d o z ad, H a = some (.ins CS dx (shF n d o z)) ∧ ShPart H (shF n d o z) rows nd n d ad ∧ H o = some (.dK (dO rows fun r => .int (ix rows r)))
theorem ShAt.ex {CS : Addr} {H H' : Hp} {a : Addr} {rows : List Str} {nd : Str → List Str} (S : ShAt CS H a rows nd) (e : Ex H H') : ShAt CS H' a rows nd := by
  obtain ⟨dx, n, d, o, z, ad, h1, h2, h3⟩ := S.ex_
  exact ⟨dx, n, d, o, z, ad, e _ _ h1, h2.ex e, e _ _ h3⟩
/-! ### what depends on what -/
inductive Dep (nd : Str → List Str) : Str → Str → Prop where
  | base {r s : Str} (h : r ∈ nd s) : Dep nd r s
  | step {r m s : Str} (h : m ∈ nd s) (d : Dep nd r m) : Dep nd r s
theorem Dep.trans {nd : Str → List Str} {r m s : Str} (a : Dep nd r m) (b : Dep nd m s) : Dep nd r s := by
  induction b with
  | base h => exact .step h a
  | step h _ ih => exact .step h ih
/-- a sheet's data -/
structure Sht (rows : List Str) (nd : Str → List Str) : Prop where
  nod : rows.Nodup
  len : rows.length ≤ 12
  nam : ∀ r ∈ rows, IsName r
  sub : ∀ r ∈ rows, ∀ s ∈ nd r, s ∈ rows
  ndn : ∀ r ∈ rows, (nd r).Nodup
  rk : ∃ ρ : Str → Nat, ∀ r ∈ rows, ∀ s ∈ nd r, ρ s < ρ r
theorem Sht.dep {rows : List Str} {nd : Str → List Str} (S : Sht rows nd) {r s : Str} (d : Dep nd r s) (hs : s ∈ rows) : r ∈ rows := by
  induction d with
  | base h => exact S.sub _ hs _ h
  | step h _ ih => exact ih (S.sub _ hs _ h)
theorem Sht.irr {rows : List Str} {nd : Str → List Str} (S : Sht rows nd) {r s : Str} (d : Dep nd r s) (hs : s ∈ rows) : r ≠ s := by
  obtain ⟨ρ, hρ⟩ := S.rk
  have h : ρ r < ρ s := by
    induction d with
    | base h => exact hρ _ hs _ h
    | step h _ ih => exact Nat.lt_trans (ih (S.sub _ hs _ h)) (hρ _ hs _ h)
  intro e
  rw [e] at h
  exact Nat.lt_irrefl _ h
theorem len_sub : ∀ {l m : List Str}, l.Nodup → (∀ x ∈ l, x ∈ m) → l.length ≤ m.length
  | [], _, _, _ => Nat.zero_le _
  | a :: l, m, hn, h => by
    have ha := h a List.mem_cons_self
    have ih := len_sub (l := l) (m := m.erase a) (List.nodup_cons.mp hn).2 fun x hx => (List.mem_erase_of_ne fun e => (List.nodup_cons.mp hn).1 (by rw [← e]; exact hx)).mpr (h x (List.mem_cons_of_mem _ hx))
    have e := List.length_erase_of_mem ha
    have p := List.length_pos_of_mem ha
    rw [List.length_cons]
    omega
theorem Sht.ndlen {rows : List Str} {nd : Str → List Str} (S : Sht rows nd) {r : Str} (hr : r ∈ rows) : (nd r).length ≤ 12 :=
  Nat.le_trans (len_sub (S.ndn r hr) fun s hs => S.sub r hr s hs) S.len
/-- a dict from each row to a dict whose keys are the rows on which it depends -/
structure BelAt (H : Hp) (d : Addr) (rows : List Str) (nd : Str → List Str) : Prop where
  ex_ : ∃ (ks : List Str) (bl : Str → List Str) (ad : Str → Addr), H d = some (.dK (dO ks fun r => .ref (ad r))) ∧ (∀ r, r ∈ ks ↔ r ∈ rows) ∧ (∀ r ∈ ks, H (ad r) = some (.dK (dO (bl r) fun _ => .bl true))) ∧ ∀ r ∈ ks, ∀ q, q ∈ bl r ↔ Dep nd q r
theorem BelAt.ex {H H' : Hp} {d : Addr} {rows : List Str} {nd : Str → List Str} (S : BelAt H d rows nd) (e : Ex H H') : BelAt H' d rows nd := by
  obtain ⟨ks, bl, ad, h1, h2, h3, h4⟩ := S.ex_
  exact ⟨ks, bl, ad, e _ _ h1, h2, fun r hr => e _ _ (h3 r hr), h4⟩
end K29
set_option Elab.async false
set_option linter.all false
set_option maxRecDepth 100000
set_option maxHeartbeats 4000000
namespace K29
open PySem PySem.Spec PyProof.Rows L2 Evl
section
variable {P : Program} {w : World} {K : PySem.W.Frag} {mg : Str → Option Value} {base : Heap}
abbrev cS (K : PySem.W.Frag) : Addr := He.ga K "Sheet"
abbrev cK (K : PySem.W.Frag) : Addr := He.ga K "Keep"
/-! ### Sheet.__len__, __contains__, rows, needs -/
theorem sc_Sheet_len : FnScope ["self"] ["self"] (defScope s_Sheet_len) := ⟨rfl, rfl, rfl, by decide +kernel, rfl, by decide +kernel, by decide +kernel⟩
def spLenS (K : PySem.W.Frag) : Sp := fun vs H Q _ => ∃ a rows nd, vs = [.ref a] ∧ ShAt (cS K) H a rows nd ∧ rows.length ≤ 100 ∧ RetV (.int rows.length) H Q
theorem ev_lenT {ta : TE} {σ : L2.St} {H : Hp} {p : Addr} {xs : List V} (ha : Ev ta σ H (.ref p)) (h : SqT K H p xs) : Ev (tCB (fun vs H Q => ∃ p ys, vs = [.ref p] ∧ (SqL K H p ys ∨ SqT K H p ys) ∧ Q (.int ys.length) H) (tCons ta tNil)) σ H (.int (xs.length : Int)) := fun H1 e Q q =>
  ha H1 e _ fun H2 e2 => ⟨p, xs, rfl, Or.inr (ex_t (e.trans e2) h), q H2 e2⟩
theorem ok_Sheet_len (T : Tx K mg) : FnR P w K mg base CX0 1 (He.ma K (cS K) "__len__") (spLenS K) := by
  refine fnr T.d_Sheet_len sc_Sheet_len (fun _ _ _ _ _ _ us hl => match us, hl with | [_], _ => rfl) (fun vs H Q E h => ?_) (fun cdv A outer s H vs Q E hr h => ?_)
  · obtain ⟨a, rows, nd, rfl, _⟩ := h
    rfl
  · obtain ⟨a, rows, nd, rfl, S, hl, k⟩ := h
    obtain ⟨dx, n, d, o, z, ad, h1, h2, h3⟩ := S.ex_
    refine ⟨_, pss_one (ps_ret (pe_callB call_len_seq (by rfl) T.f_len PySem.boot_len (pa_cons (pe_fld (pv 0) rfl) pa_nil))), ?_⟩
    refine s_ret (ev_is (ev_lenT (ev_fld (ev_var rfl) h1 T.c_Sheet T.n_Sheet_names h2.ln) (st_of h2.hn)) ?_) fun H1 e => k.go e
    rw [List.length_map]
theorem sc_Sheet_contains : FnScope ["self", "name"] ["self", "name"] (defScope s_Sheet_contains) := ⟨rfl, rfl, rfl, by decide +kernel, rfl, by decide +kernel, by decide +kernel⟩
def spHasS (K : PySem.W.Frag) : Sp := fun vs H Q _ => ∃ a rows nd r, vs = [.ref a, .str r] ∧ ShAt (cS K) H a rows nd ∧ RetV (.bl (decide (r ∈ rows))) H Q
theorem ok_Sheet_contains (T : Tx K mg) : FnR P w K mg base CX0 1 (He.ma K (cS K) "__contains__") (spHasS K) := by
  refine fnr T.d_Sheet_contains sc_Sheet_contains (fun _ _ _ _ _ _ us hl => match us, hl with | [_, _], _ => rfl) (fun vs H Q E h => ?_) (fun cdv A outer s H vs Q E hr h => ?_)
  · obtain ⟨a, rows, nd, r, rfl, _⟩ := h
    rfl
  · obtain ⟨a, rows, nd, r, rfl, S, k⟩ := h
    obtain ⟨dx, n, d, o, z, ad, h1, h2, h3⟩ := S.ex_
    have hu := hu_of hr
    refine ⟨_, pss_one (ps_ret (pe_and (pe_callB call_isi (by rfl) T.f_isinstance bi_isinstance (pa_cons (pv 1) (pa_cons (pe_bltn (by rfl) T.f_str cs_str (v := .ty "str") rfl) pa_nil)))
      (pe_one (pe_cmp (pc_din hu (pv 1) (pe_fld (pv 0) rfl)) rfl)))), ?_⟩
    exact s_ret (v := .bl (decide (r ∈ rows))) (ev_andV (a := true) (ev_isi (ev_var rfl) ev_c (.ty _) (fun _ _ => ty_str) (b := true) (kit_ty (by decide +kernel))) fun _ =>
      ev_din (ev_var rfl) (ev_fld (ev_var rfl) h1 T.c_Sheet T.n_Sheet_order shF_order) (.of h3)) fun H1 e => k.go e
theorem sc_Sheet_rows : FnScope ["self"] ["self"] (defScope s_Sheet_rows) := ⟨rfl, rfl, rfl, by decide +kernel, rfl, by decide +kernel, by decide +kernel⟩
def spRows (K : PySem.W.Frag) : Sp := fun vs H Q _ => ∃ a dx fs v, vs = [.ref a] ∧ H a = some (.ins (cS K) dx fs) ∧ fs.lookup ("names" : Str) = some v ∧ RetV v H Q
theorem ok_Sheet_rows (T : Tx K mg) : FnR P w K mg base CX0 1 (gAd K g_Sheet_rows) (spRows K) := by
  refine fnr T.dg_Sheet_rows sc_Sheet_rows (fun _ _ _ _ _ _ us hl => match us, hl with | [_], _ => rfl) (fun vs H Q E h => ?_) (fun cdv A outer s H vs Q E hr h => ?_)
  · obtain ⟨a, dx, fs, v, rfl, _⟩ := h
    rfl
  · obtain ⟨a, dx, fs, v, rfl, h1, h2, k⟩ := h
    refine ⟨_, pss_one (ps_ret (pe_fld (pv 0) rfl)), ?_⟩
    exact s_ret (ev_fld (ev_var rfl) h1 T.c_Sheet T.n_Sheet_names h2) fun H1 e => k.go e
theorem sc_Sheet_needs : FnScope ["self"] ["self"] (defScope s_Sheet_needs) := ⟨rfl, rfl, rfl, by decide +kernel, rfl, by decide +kernel, by decide +kernel⟩
/-- a new dict of these pairs -/
def RetD (kvs : List (Key × V)) (H : Hp) (Q : VK) : Prop := ∀ p H2, H p = none → Ex H H2 → H2 p = some (.dK kvs) → Q (.ref p) H2
def spNeeds (K : PySem.W.Frag) : Sp := fun vs H Q _ => ∃ a dx fs d kvs, vs = [.ref a] ∧ H a = some (.ins (cS K) dx fs) ∧ fs.lookup ("direct" : Str) = some (.ref d) ∧ H d = some (.dK kvs) ∧ RetD kvs H Q
theorem ok_Sheet_needs (T : Tx K mg) : FnR P w K mg base CX0 1 (gAd K g_Sheet_needs) (spNeeds K) := by
  refine fnr T.dg_Sheet_needs sc_Sheet_needs (fun _ _ _ _ _ _ us hl => match us, hl with | [_], _ => rfl) (fun vs H Q E h => ?_) (fun cdv A outer s H vs Q E hr h => ?_)
  · obtain ⟨a, dx, fs, d, kvs, rfl, _⟩ := h
    rfl
  · obtain ⟨a, dx, fs, d, kvs, rfl, h1, h2, h3, k⟩ := h
    refine ⟨_, pss_one (ps_ret (pe_callTy call_dictD (by rfl) T.f_dict cs_dict (pa_cons (pe_fld (pv 0) rfl) pa_nil))), ?_⟩
    refine ev_fld (ev_var rfl) h1 T.c_Sheet T.n_Sheet_direct h2 H (Ex.refl H) _ fun H1 e => ⟨d, kvs, rfl, .of (e _ _ h3), fun p hp => k p _ (fresh_back e hp) (e.trans (Ex.new hp)) upd_same⟩
/-! ### the exceptions -/
theorem sc_NotMoved : FnScope ["self", "name"] ["self", "name"] (defScope s_NotMoved_init) := ⟨rfl, rfl, rfl, by decide +kernel, rfl, by decide +kernel, by decide +kernel⟩
theorem sc_InvalidPasses : FnScope ["self", "value"] ["self", "value"] (defScope s_InvalidPasses_init) := ⟨rfl, rfl, rfl, by decide +kernel, rfl, by decide +kernel, by decide +kernel⟩
theorem sc_TooMany : FnScope ["self", "limit"] ["self", "limit"] (defScope s_TooMany_init) := ⟨rfl, rfl, rfl, by decide +kernel, rfl, by decide +kernel, by decide +kernel⟩
theorem ok_NotMoved (T : Tx K mg) : FnR P w K mg base CX0 1 (He.ma K (He.ga K "NotMoved") "__init__") (spXI (He.ga K "NotMoved") "name") := by
  refine fnr T.d_NotMoved_init sc_NotMoved (fun _ _ _ _ _ _ us hl => match us, hl with | [_, _], _ => rfl) (fun vs H Q E h => ?_) (fun cdv A outer s H vs Q E hr h => ?_)
  · obtain ⟨a, v, rfl, _⟩ := h
    rfl
  · obtain ⟨a, v, rfl, h1, k⟩ := h
    refine ⟨_, pss_one (ps_xst T.x_NotMoved PySem.F.store_ValueError (pv 0) (pv 1)), ?_⟩
    exact ⟨v, rfl, .ref a, rfl, a, rfl, h1, fun dx n ne => k dx n ne⟩
theorem ok_InvalidPasses (T : Tx K mg) : FnR P w K mg base CX0 1 (He.ma K (He.ga K "InvalidPasses") "__init__") (spXI (He.ga K "InvalidPasses") "value") := by
  refine fnr T.d_InvalidPasses_init sc_InvalidPasses (fun _ _ _ _ _ _ us hl => match us, hl with | [_, _], _ => rfl) (fun vs H Q E h => ?_) (fun cdv A outer s H vs Q E hr h => ?_)
  · obtain ⟨a, v, rfl, _⟩ := h
    rfl
  · obtain ⟨a, v, rfl, h1, k⟩ := h
    refine ⟨_, pss_one (ps_xst T.x_InvalidPasses PySem.F.store_ValueError (pv 0) (pv 1)), ?_⟩
    exact ⟨v, rfl, .ref a, rfl, a, rfl, h1, fun dx n ne => k dx n ne⟩
theorem ok_TooMany (T : Tx K mg) : FnR P w K mg base CX0 1 (He.ma K (He.ga K "TooMany") "__init__") (spXI (He.ga K "TooMany") "limit") := by
  refine fnr T.d_TooMany_init sc_TooMany (fun _ _ _ _ _ _ us hl => match us, hl with | [_, _], _ => rfl) (fun vs H Q E h => ?_) (fun cdv A outer s H vs Q E hr h => ?_)
  · obtain ⟨a, v, rfl, _⟩ := h
    rfl
  · obtain ⟨a, v, rfl, h1, k⟩ := h
    refine ⟨_, pss_one (ps_xst T.x_TooMany PySem.F.store_OverflowError (pv 0) (pv 1)), ?_⟩
    exact ⟨v, rfl, .ref a, rfl, a, rfl, h1, fun dx n ne => k dx n ne⟩
/-! ### need_room -/
theorem sc_need_room : FnScope ["sheet", "passes", "most"] ["sheet", "passes", "most"] (defScope s_need_room) := ⟨rfl, rfl, rfl, by decide +kernel, rfl, by decide +kernel, by decide +kernel⟩
/-- an error of the class C whose field f is v is wanted -/
def RaisesX (C : Addr) (f : Str) (v : V) (H : Hp) (E : XK) : Prop := ∀ d H2, H d = none → Ex H H2 → H2 d = some (.xd [(f, v)]) → E (.ref C) (some d) H2
theorem RaisesX.go {C : Addr} {f : Str} {v : V} {H H' : Hp} {E : XK} (k : RaisesX C f v H E) (e : Ex H H') : RaisesX C f v H' E := fun d H2 n e2 h => k d H2 (fresh_back e n) (e.trans e2) h
structure Room_ (K : PySem.W.Frag) (n : Nat) (k : Int) (H : Hp) (E : XK) (ok : Prop) : Prop where
  good : 1 ≤ k ∧ k ≤ 60 → (n : Int) * k ≤ 120 → ok
  bad : ¬ (1 ≤ k ∧ k ≤ 60) → RaisesX (He.ga K "InvalidPasses") "value" (.int k) H E
  many : 1 ≤ k ∧ k ≤ 60 → 120 < (n : Int) * k → RaisesX (He.ga K "TooMany") "limit" (.int 120) H E
def spNeedRoom (K : PySem.W.Frag) : Sp := fun vs H Q E => ∃ (a : Addr) (rows : List Str) (nd : Str → List Str) (k : Int), vs = [.ref a, .int k] ∧ ShAt (cS K) H a rows nd ∧ rows.length ≤ 100 ∧ Room_ K rows.length k H E (RetV .non H Q)
def spNeedRoom3 (K : PySem.W.Frag) : Sp := fun vs H Q E => ∃ (a : Addr) (k : Int), vs = [.ref a, .int k, .int 120] ∧ spNeedRoom K [.ref a, .int k] H Q E
theorem ok_need_room (T : Tx K mg) : FnR P w K mg base (L2.CX P w) 3 (He.ga K "need_room") (spNeedRoom K) := by
  have G1 := ok_is_between (P := P) (w := w) (base := base) T
  have G2 := ok_Sheet_len (P := P) (w := w) (base := base) T
  have G3 := ok_InvalidPasses (P := P) (w := w) (base := base) T
  have G4 := ok_TooMany (P := P) (w := w) (base := base) T
  obtain ⟨fd1, D1⟩ := T.d_is_between
  obtain ⟨t1, g1⟩ := T.i_MOST_PASSES
  obtain ⟨fd, D⟩ := T.d_need_room
  obtain ⟨ds, rd, hb⟩ := D.binds0 (ps := ["sheet", "passes", "most"]) 2 (by simp) rfl (fun D doc pm an cdv ct us ks hl hk => match us, hl, ks, hk with | [_, _], _, [_], _ => ⟨_, _, _, _, _, _, rfl, rfl, rfl⟩)
  have F : FnOk P w K mg base (L2.CX P w) 3 (He.ga K "need_room") fd ["sheet", "passes", "most"] (spNeedRoom3 K) := by
    refine D.ok sc_need_room (fun vs H Q E h => ?_) (fun cdv A outer s H vs Q E hr h => ?_)
    · obtain ⟨a, k, rfl, _⟩ := h
      rfl
    · obtain ⟨a, k, rfl, a', rows, nd, k', ev, S, hl, R⟩ := h
      injection ev with e1 e2
      injection e2 with e3 _
      injection e1 with e1
      injection e3 with e3
      subst e1 e3
      refine ⟨_, pss_cons (ps_if (pt_not (pt_val (pe_fn G1 hr (by rfl) T.g_is_between D1.kp pass0 (pa_cons (pv 1) (pa_cons pe_int (pa_cons (pe_glob (v := .int 60) (by rfl) g1 ⟨_, rfl⟩) pa_nil))))))
          (pss_one (ps_raise rfl (takes_of rfl rfl rfl rfl) (pmk_xc T.x_InvalidPasses PySem.F.excBase_ValueError G3 hr (by rfl) T.g_InvalidPasses (pa_cons (pv 1) pa_nil)))) pss_nil)
        (pss_one (ps_if (pt_cmpR op_gt (pe_op op_mul (pe_callB (call_lenO (E := fun _ _ _ => False) T.m_Sheet_len.at_ T.m_Sheet_len.fn G2 hr) (by rfl) T.f_len PySem.boot_len (pa_cons (pv 0) pa_nil)) (pv 1)) (pv 2) (nomark _))
          (pss_one (ps_raise rfl (takes_of rfl rfl rfl rfl) (pmk_xc T.x_TooMany PySem.F.excBase_OverflowError G4 hr (by rfl) T.g_TooMany (pa_cons (pv 2) pa_nil)))) pss_nil)), ?_⟩
      have eb : ∀ H1, Ex H H1 → RaisesX (He.ga K "InvalidPasses") "value" (.int k) H1 E ∨ (1 ≤ k ∧ k ≤ 60) := fun H1 e => by
        by_cases hk : 1 ≤ k ∧ k ≤ 60
        · exact .inr hk
        · exact .inl ((R.bad hk).go e)
      refine q_when (b := !(decide (1 ≤ k) && decide (k ≤ 60))) (et_not (et_B (ev_fn (vs := [.int k, .int 1, .int 60]) (ea_cons (ev_var rfl) (ea_cons ev_c (ea_cons ev_c ea_nil))) fun H1 e Q k' => ⟨k, 1, 60, rfl, k'⟩))) (fun hb H1 e1 => ?_) (fun hb H1 e1 => ?_)
      · have hk : ¬ (1 ≤ k ∧ k ≤ 60) := fun z => by
          rw [decide_eq_true z.1, decide_eq_true z.2] at hb
          cases hb
        exact ⟨.int k, rfl, .int k, rfl, fun d H2 n e2 h2 => (R.bad hk) d H2 (fresh_back e1 n) (e1.trans e2) h2⟩
      · have hk : 1 ≤ k ∧ k ≤ 60 := by
          by_cases h1 : 1 ≤ k
          · by_cases h2 : k ≤ 60
            · exact ⟨h1, h2⟩
            · rw [decide_eq_false h2, Bool.and_false] at hb
              cases hb
          · rw [decide_eq_false h1] at hb
            cases hb
        have hS := S.ex e1
        obtain ⟨dx, n, d, o, z, ad, h1, _⟩ := hS.ex_
        refine ⟨.ref a, rfl, a, dx, _, rfl, h1, a, rows, nd, rfl, hS, hl, fun H2 e2 => ⟨(rows.length : Int), rfl, by omega, .int k, rfl, (rows.length : Int), k, rfl, rfl, .inl (by omega), .int 120, rfl, _, _, rfl, rfl, _, rfl, ?_⟩⟩
        refine ite2 (fun hc => ?_) fun hc => ?_
        · have hc' : (120 : Int) < (rows.length : Int) * k := of_decide_eq_true hc
          exact ⟨.int 120, rfl, .int 120, rfl, fun d H3 n e3 h3 => (R.many hk hc') d H3 (fresh_back (e1.trans e2) n) ((e1.trans e2).trans e3) h3⟩
        · have hc' : ¬ (120 : Int) < (rows.length : Int) * k := fun z => hc (decide_eq_true z)
          exact R.good hk (by omega) H2 (e1.trans e2)
  refine (F.raw (dvs := [.int 120]) hb rd).imp fun vs H Q E h => ?_
  obtain ⟨a, rows, nd, k, rfl, S, R⟩ := h
  exact ⟨a, k, rfl, a, rows, nd, k, rfl, S, R⟩
end
end K29
set_option Elab.async false
set_option linter.all false
set_option maxRecDepth 100000
set_option maxHeartbeats 4000000
/-! Rules over tuples that the layer has for lists alone. -/
namespace K29
open PySem PySem.Spec PyProof.Rows L2
/-! ### enumerate(t), t a tuple -/
theorem mk_enumT (t : Addr) (items : Array Value) :
    Meets (Builtin.«enumerate.__new__» ⟨[.type "enumerate", .ref t], []⟩) (fun _ R s => s.heap.IsTuple t items ∧ R (.ok (.ret (.ref (s.heap.push { cls := .type "tuple_iterator", data := .fields #[.ref t, .int 0 0] }).objs.size)))
      { s with heap := (s.heap.push { cls := .type "tuple_iterator", data := .fields #[.ref t, .int 0 0] }).push { cls := .type "enumerate", data := .fields #[.none, .bool false, .ref s.heap.objs.size, rawInt 0, .none, .none] } }) :=
  .of_wp fun prog w A R s h => by
    obtain ⟨hp, g, d, tk, os⟩ := s; obtain ⟨h1, h⟩ := h
    have hsub := sub_enumerate; have B := begins_tuple t items
    have q1 : ∀ {A' : Around} {E : Value → Shared → Prop} {Q : Value → Shared → Prop}, Q (.ref hp.objs.size) ⟨hp.push { cls := .type "tuple_iterator", data := .fields #[.ref t, .int 0 0] }, g, d, tk, os⟩ → wpAny (model prog w) A' (pyIter (.ref t)) Q E ⟨hp, g, d, tk, os⟩ :=
      fun q => B.iter prog w _ _ ⟨hp, g, d, tk, os⟩ _ h1 q
    wp_walk using q1
    refine wpAny_stack_any fun st => wpAny_pure ?_
    split
    · rename_i c _ _ _ _ _
      cases (c == Value.type "enumerate")
      · wp_walk using q1
        exact ⟨_, rfl, h⟩
      · wp_walk using q1
        exact ⟨_, rfl, h⟩
    · wp_walk using q1
      exact ⟨_, rfl, h⟩
section
variable {prog : Program} {w : World} {A : Around} {E : Value → Shared → Prop} {s : Shared}
theorem call_enumT {t : Addr} {items : Array Value} {Q : Value → Shared → Prop} (ht : s.heap.IsTuple t items)
    (h : ∀ h', IsEnum h' (s.heap.objs.size + 1) s.heap.objs.size 0 .none → h'.IsTupleIter s.heap.objs.size t 0 → (∀ b o, s.heap.get? b = some o → h'.get? b = some o) → Q (.ref (s.heap.objs.size + 1)) { s with heap := h' }) :
    wpAny (model prog w) A (call (.type "enumerate") [.ref t]) Q E s := by
  refine callType_new F.called_enumerate (by decide) (F.typeCall_enumerate_1 _) (F.newCall_enumerate_1 _) (fun obj => F.args_object_init_2 obj _) F.entry_enumerate_new (mk_enumT t items) ⟨ht, ?_⟩
  have hz : (s.heap.push { cls := .type "tuple_iterator", data := .fields #[.ref t, .int 0 0] }).objs.size = s.heap.objs.size + 1 := Heap.size_push ..
  show _ ∧ _; rw [hz]
  have he : IsEnum ((s.heap.push { cls := .type "tuple_iterator", data := .fields #[.ref t, .int 0 0] }).push { cls := .type "enumerate", data := .fields #[.none, .bool false, .ref s.heap.objs.size, rawInt 0, .none, .none] }) (s.heap.objs.size + 1) s.heap.objs.size 0 .none := by
    have := Heap.get?_push_size (s.heap.push { cls := .type "tuple_iterator", data := .fields #[.ref t, .int 0 0] }) (o := { cls := .type "enumerate", data := .fields #[.none, .bool false, .ref s.heap.objs.size, rawInt 0, .none, .none] }) rfl
    rw [hz] at this; exact this
  exact ⟨⟨_, he, rfl⟩, h _ he ⟨_, Heap.get?_push_of_some _ (Heap.get?_push_size _ rfl), rfl, rfl⟩ fun b o x => Heap.get?_push_of_some _ (Heap.get?_push_of_some _ x)⟩
end
/-- the tuple at a as it stands at each turn, each item in a new pair -/
def IteT (K : PySem.W.Frag) (a : Addr) : It :=
  ⟨fun i H => ∃ (xs : List V) (x : V), SqT K H a xs ∧ xs[i]? = some x, fun i H v H' => ∃ T x, v = .ref T ∧ H T = none ∧ H' = upd H T (.tup [.int (i : Nat), x]) ∧ ∀ xs, SqT K H a xs → xs[i]? = some x,
    fun i H => ∃ xs : List V, SqT K H a xs ∧ xs.length = i⟩
theorem turn_enumT {P : Program} {w : World} {K : PySem.W.Frag} {elts : List Expr} {kk : Nat} {tpos : Pos} (a e it : Addr) (hai : a ≠ it) (hae : a ≠ e) :
    Turn P w K (.Tuple elts kk tpos) (IteT K a) [e, it] e (fun i h => (∃ old, IsEnum h e it ((i : Nat) : Int) old) ∧ h.IsTupleIter it a i ∧ e ≠ it) where
  mem := by simp
  obj := fun i h st b hb => by
    obtain ⟨⟨old, he⟩, ⟨o, ho, hc, hd⟩, _⟩ := st
    have e' : b = e ∨ b = it := by simpa using hb
    rcases e' with z | z
    · exact z ▸ ⟨_, he, fun v q => nomatch q⟩
    · exact z ▸ ⟨o, ho, fun v q => by rw [hd] at q; cases q⟩
  keep := fun i h h' st k => by
    obtain ⟨⟨old, he⟩, hi, hne⟩ := st
    exact ⟨⟨old, k e (by simp) _ he⟩, hi.at fun o q => k it (by simp) o q, hne⟩
  item := by
    intro X hP hw hK hc i pins s σ H E I hf st hg
    subst hP hw hK
    obtain ⟨⟨old, he⟩, hit, hne⟩ := st
    obtain ⟨xs, x, hq, hx⟩ := hg
    obtain ⟨its, rv, p, hz⟩ := I.tuple hq
    obtain ⟨u, hu, ru⟩ := rv.get hx
    have hel : e < s.heap.objs.size := Heap.lt_size he
    have hil : it < s.heap.objs.size := by
      obtain ⟨_, q, _⟩ := hit
      exact Heap.lt_size q
    have hi : i < its.toArray.size := by
      obtain ⟨q, _⟩ := List.getElem?_eq_some_iff.mp hu
      simpa using q
    refine wpAny_pyNext_enum_itemD (Draws.tuple (prog := X.prog) (w := X.w) (A := X.A.in1) (by simpa using I.ok.hd hc) it a hai its.toArray) he ⟨hit, p⟩ hi hne (by
      intro q
      rcases List.mem_cons.mp q with q | q
      · exact hne q
      · exact hae (List.mem_singleton.mp q).symm) fun y h' tk hP ho hs' hT hsz hk => ?_
    have ey : y = u := by
      have e1 : its.toArray[i]? = some y := hP
      rw [List.getElem?_toArray] at e1
      exact Option.some.inj (e1.symm.trans hu)
    subst ey
    refine ⟨_, rfl, wpAny_letOwnedTupleGo_enum (s := { s with heap := h', toks := tk + 1 }) ho fun h'' he' sb => ?_⟩
    have hT2 : h''.get? s.heap.objs.size = some { cls := .type "tuple", data := .seq #[.int i tk, y] } := (sb.2 _ (Nat.ne_of_gt hel)).trans hT
    have new : ObjOk X.prog X.w (upd H s.heap.objs.size (.tup [.int (i : Nat), x])) h'' s.heap.objs.size (.tup [.int (i : Nat), x]) := ⟨by show 2 ≤ sizeLine; decide, [.int i tk, y], .cons ⟨_, rfl⟩ (.cons ru .nil), ⟨_, hT2, rfl, _, rfl⟩⟩
    have I1 : Inv X pins σ (upd H s.heap.objs.size (.tup [.int (i : Nat), x])) { s with heap := h'', toks := tk + 1 } :=
      I.turnedNew (ch := [e, it]) (fun b ob hb q => (sb.2 b (fun z => hb (by simp [z]))).trans (hk b ob (fun z => hb (by simp [z])) (fun z => hb (by simp [z])) q)) hf (Nat.le_refl _) new
    refine ⟨.ref s.heap.objs.size, _, I1, rfl, ⟨_, x, rfl, I.hok.fresh (Nat.le_refl _), rfl, fun ys hy => ?_⟩, ⟨⟨y, ?_⟩, hs'.1.at fun o q => (sb.2 it (Ne.symm hne)).trans q, hne⟩, fun b hb => ?_⟩
    · rw [I.tuple_inj hy hq, hx]
    · have e1 : ((i + 1 : Nat) : Int) = (i : Int) + 1 := by omega
      exact e1 ▸ he'
    · have hb' : b < s.heap.objs.size := by
        have e' : b = e ∨ b = it := by simpa using hb
        rcases e' with z | z
        · exact z ▸ hel
        · exact z ▸ hil
      rw [upd_ne (Nat.ne_of_lt hb')]
      exact (hf b hb).1
  done := by
    intro X hP hw hK hc i pins s σ H E I hf st hg
    subst hP hw hK
    obtain ⟨⟨old, he⟩, hit, hne⟩ := st
    obtain ⟨xs, hq, hx⟩ := hg
    obtain ⟨its, rv, p, hz⟩ := I.tuple hq
    obtain ⟨f0, f1, f2, f3, f4, f5⟩ := hf it (by simp)
    have hl : its.toArray.size = i := by
      rw [List.size_toArray, ← rv.length, hx]
    subst hl
    exact wpAny_pyNext_enum_endD (Draws.tuple (prog := X.prog) (w := X.w) (A := X.A.in1) (by simpa using I.ok.hd hc) it a hai its.toArray) he ⟨hit, p⟩ fun h' eb => ⟨rfl, I.turned (t' := s.toks) (fun b o hb q => eb b o hb q) f0 f1 f3 f4 f5⟩
  self := fun A i s Q E st h => let ⟨⟨_, he⟩, _⟩ := st; wpAny_pyIter_enum he h
def iEnumT (K : PySem.W.Frag) (ta : TA) : TI := fun σ H R => ta σ H fun vs H1 => ∃ a xs, vs = [.ref a] ∧ SqT K H1 a xs ∧ R (IteT K a) H1
theorem pi_enumT {X : Cx} {e : Expr} {ta : TA} {p pos tpos : Pos} {elts : List Expr} {kk : Nat} (hg : Gl X "enumerate") (hm : X.mg "enumerate" = none) (ha : PA X [e] ta) (hs : starEach [e] X.env = [(false, eval e X.env)] := by rfl) :
    PI X (.Tuple elts kk tpos) (.Call (.Name "enumerate" p) [e] [] pos) (iEnumT X.K ta) := by
  refine ⟨fun pins s σ H R I h => Call_ (ld_blt I hg hm boot_enumerate (PyProof.Rows.callWith_type1 (thn (ha.run pos pins s σ H _ I h) fun us s1 ⟨vs, H1, I1, r1, q1⟩ => ?_) hs rfl))⟩
  obtain ⟨a, xs, rfl, hq, q⟩ := q1
  obtain ⟨u, rfl, ru⟩ := vals1 r1
  cases ru
  obtain ⟨its, rv, p', hz⟩ := I1.tuple hq
  have hlt : a < s1.heap.objs.size := by
    obtain ⟨_, g, _⟩ := p'
    exact Heap.lt_size g
  refine call_enumT p' fun h' he hit hk => wpAny_pyIter_enum he ?_
  have I2 : Inv X pins σ H1 { s1 with heap := h' } := I1.kept (t' := s1.toks) hk
  refine ⟨s1.heap.objs.size + 1, [s1.heap.objs.size + 1, s1.heap.objs.size], _, _, H1, rfl, I2, turn_enumT a (s1.heap.objs.size + 1) s1.heap.objs.size (Nat.ne_of_lt hlt) (Nat.ne_of_lt (Nat.lt_succ_of_lt hlt)), ⟨⟨.none, he⟩, hit, Nat.succ_ne_self _⟩, fun b hb => ?_, q⟩
  have hle : s1.heap.objs.size ≤ b := by
    rcases (by simpa using hb : b = s1.heap.objs.size + 1 ∨ b = s1.heap.objs.size) with z | z
    · exact z ▸ Nat.le_succ _
    · exact z ▸ Nat.le_refl _
  exact I1.fpOk hle (I1.hok.fresh hle)
theorem walk_enumT {K : PySem.W.Frag} {a : Addr} {xs : List V} : Walk (IteT K a) xs.length (fun H => SqT K H a xs) (YPair (fun i => some (.int (i : Nat))) (fun i => xs[i]?)) := by
  refine ⟨fun i _ hi q => ⟨xs, xs[i], q, by simp [hi]⟩, fun _ q => ⟨xs, q, rfl⟩, fun i H v H' _ q y => ?_⟩
  obtain ⟨T, x, h1, h2, h3, h4⟩ := y
  exact ⟨T, .int (i : Nat), x, h1, h2, h3, rfl, h4 xs q⟩
/-! ### x in t, t a tuple of data of any depth -/
section
variable {X : Cx}
def rInU (K : PySem.W.Frag) : R2 := fun x y H Q => ∃ d ds, Dp K H x d ∧ Dp K H y (.tuple ds) ∧ SeqAt.shaped d = true ∧ SeqAt.shaped (.tuple ds) = true ∧ Q (.bl (ds.any fun z => PyData.eqv z d)) H
theorem op_inU (hu : X.A.units + 65 < cLine) : OpR X (compareOp .In) (rInU X.K) := by
  intro pins s σ H x y v u Q I rx ry h
  obtain ⟨d, ds, hd, he, sd, se, q⟩ := h
  obtain ⟨as, g1⟩ := Dp.reads I d x v hd rx
  obtain ⟨bs, g2⟩ := Dp.reads I (.tuple ds) y u he ry
  exact SeqAt.in_tuple_reads g2 g1 (SeqAt.canLay_of_shaped se) (SeqAt.canLay_of_shaped sd) (room_in_shaped sd hu) ⟨.bl _, H, I, rfl, q⟩
end
/-! ### sorted(t), t a tuple of texts -/
section
variable {prog : Program} {w : World} {A : Around} {E : Value → Shared → Prop} {s : Shared}
theorem sorted_tupS {a : Addr} {vs : List Value} {ss : List Str} {Q : Value → Shared → Prop} (ht : s.heap.IsTuple a vs.toArray) (hS : StrsAre vs ss) (h64 : vs.length < 64)
    (h : ∀ (h1 h' : Heap) (out : List Value) (ss' : List Str) (ep : Nat), (∀ b o, s.heap.get? b = some o → h1.get? b = some o) → StrsAre out ss' → ss'.Perm ss → sortedS ss' = true → h'.get? h1.objs.size = some (seqObj "list" out.toArray ep) →
      (∀ b o, h1.get? b = some o → h'.get? b = some o) → Q (.ref h1.objs.size) { s with heap := h' }) :
    wpAny (model prog w) A (call (.builtin "sorted") [.ref a]) Q E s := by
  refine Calls.call_function_entry kind_sorted plain_sorted entry_sorted (args_sorted1 _) ?_
  unfold Builtin.«sorted»
  obtain ⟨o, ho, hc, n, hd⟩ := ht
  have hz : vs.toArray.size ≤ sizeLine := by rw [List.size_toArray, sizeLine_eq]; omega
  refine wpAny_bind (m := checkCount "sorted" 1 1 _) (wpAny_pure (wpAny_bind (wpAny_collect_seq a (.inr rfl) ho hc hd (fun h1 k1 => wpAny_bind (wpAny_newList ?_)) hz)))
  have hoL : (h1.push (seqObj "list" vs.toArray 0)).get? h1.objs.size = some (seqObj "list" vs.toArray 0) := Heap.get?_push_size _ rfl
  refine wpAny_bind (wpAny_holding (wpAny_call_entry slot_list_sort ⟨_, hoL, rfl⟩ entry_list_sort (list_sort_treeK strKind_oneLt hoL hS.keysOf (fun v₁ v₂ rest e => keyKind_strs (by rw [← e]; exact hS)) h64 fun st' a1 a2 => ⟨_, rfl, ?_⟩) (args_list_sort _)))
  obtain ⟨ss', b1, b2, b3⟩ := sorted_out_str hS a1 a2
  obtain ⟨ep, he⟩ := sortedHeap_at (vs := vs) (out := (arrOf st').map (·.2)) hoL
  refine wpAny_pure ⟨_, rfl, h h1 _ ((arrOf st').map (·.2)).toList ss' ep k1 b1 b2 b3 he fun b o q => ?_⟩
  have hb := Heap.lt_size q
  rw [sortedHeap_old (Nat.ne_of_lt hb) (by rw [size_push']; exact Nat.lt_succ_of_lt hb)]
  exact Heap.get?_push_of_some _ q
end
section
variable {X : Cx}
def rSortU (K : PySem.W.Frag) : List V → Hp → VK → Prop := fun vs H Q => ∃ (a : Addr) (xs : List Str), vs = [V.ref a] ∧ SqT K H a (xs.map V.str) ∧ xs.length < 64 ∧
  ∀ (ys : List Str) (p : Addr), ys.Perm xs → sortedS ys = true → H p = none → Q (.ref p) (upd H p (.lst (ys.map V.str)))
theorem cr_sortU : CallR X (.builtin "sorted") (rSortU X.K) := by
  intro pins s σ H vs us Q I r h
  obtain ⟨a, xs, rfl, hs, h64, q⟩ := h
  obtain ⟨its, rv, hl, _⟩ := I.tuple hs
  rw [Vals.ref1 r]
  have e0 := rv.length
  rw [List.length_map] at e0
  refine sorted_tupS hl rv.strs (by rw [← e0]; exact h64) fun h1 h' out ys ep k1 b1 b2 b3 he k' => ?_
  have I1 : Inv X pins σ H { s with heap := h1 } := I.kept (t' := s.toks) k1
  have hz : (ys.map V.str).length ≤ sizeLine := by rw [List.length_map, b2.length_eq]; exact small64 h64
  exact ⟨.ref h1.objs.size, upd H h1.objs.size (.lst (ys.map V.str)), I1.laid (t' := s.toks) k' (Nat.le_refl _) ⟨hz, out, ep, vals_of_strs b1, he⟩, rfl, q ys _ b2 b3 (I1.hok.fresh (Nat.le_refl _))⟩
end
end K29
set_option Elab.async false
set_option linter.all false
set_option maxRecDepth 100000
set_option maxHeartbeats 4000000
/-! len(set(t)) of a tuple of different texts. -/
namespace K29
open PySem PySem.Spec PyProof.Rows L2
section
variable {prog : Program} {w : World} {A : Around} {R : Result → Shared → Prop} {I : Addr} {fp wr : List Addr} {G : Array GenState → Array GenState → Prop} {n : Nat} {P : Nat → Value → Prop} {St : Nat → Shared → Prop}
theorem take_any {xs : List Str} {i : Nat} {x : Str} (hx : xs[i]? = some x) (k : Str) : ((xs.take i).any (· == k) || decide (k = x)) = (xs.take (i + 1)).any (· == k) := by
  rw [List.take_add_one, hx, List.any_append]
  congr 1
  by_cases e : k = x
  · subst e; simp
  · have : (x == k) = false := beq_eq_false_iff_ne.mpr fun z => e z.symm
    simp [e, this]
theorem take_no {xs : List Str} (hn : xs.Nodup) {i : Nat} {x : Str} (hx : xs[i]? = some x) : (xs.take i).any (· == x) = false := by
  refine Bool.eq_false_iff.mpr fun h => ?_
  obtain ⟨y, hy, e⟩ := List.any_eq_true.mp h
  have e' : y = x := by simpa using e
  subst e'
  obtain ⟨j, hj, ej⟩ := List.mem_iff_getElem.mp hy
  rw [List.getElem_take] at ej
  have hj' : j < i := by rw [List.length_take] at hj; omega
  obtain ⟨hi, ei⟩ := List.getElem?_eq_some_iff.mp hx
  have := (List.getElem_inj hn).mp (ej.trans ei.symm)
  omega
theorem loopNd (W : WalksS prog w A.in1 I fp wr G n P St) (S : Addr) (hSf : S ∉ fp) (xs : List Str) (hsz : xs.length = n) (hnd : xs.Nodup) (h64 : n < 64)
    (hval : ∀ i v, P i v → ∃ t, v = .str (xs.getD i Str.empty) t) :
    ∀ (k i : Nat) (s : Shared), n - i = k → i ≤ n → St i s → s.heap.SetOf (PySem.strKind prog w) S (fun k' => (xs.take i).any (· == k')) i →
      (∀ s', Moved (S :: wr) G s s' → s'.heap.SetOf (PySem.strKind prog w) S (fun k' => (xs.take n).any (· == k')) n → R (.ok (.ret .none)) s') →
      codeAny (model prog w) A (.builtin "set.update.loop" ⟨[.ref S, .ref I], []⟩) R s := by
  have hSw : S ∉ wr := fun h => hSf (W.sub _ h); have hsub : ∀ b ∈ wr, b ∈ S :: wr := fun b hb => List.mem_cons_of_mem _ hb
  have keep : ∀ {i : Nat} {s s' : Shared}, s.heap.SetOf (PySem.strKind prog w) S (fun k' => (xs.take i).any (· == k')) i → Moved wr G s s' → s'.heap.SetOf (PySem.strKind prog w) S (fun k' => (xs.take i).any (· == k')) i := fun hS hm => by
    obtain ⟨o, es, ep, tb, ho, rest⟩ := hS; exact ⟨o, es, ep, tb, hm.heap S _ hSw ho, rest⟩
  intro k
  induction k with
  | zero =>
    intro i s hk hi hst hS hR
    obtain rfl : i = n := by omega
    refine codeAny_builtin (PyProof.Rows.F.entry_set_update_loop) ?_; rw [Around.under_plainId (PyProof.Rows.F.plain_set_update_loop) _]
    show wpAny _ A.in1 (pyNext (.ref I) >>= _) _ _ s; refine wpAny_bind (W.done s _ _ hst fun s' hm => ?_)
    exact wpAny_pure (hR s' (hm.mono hsub) (keep hS hm))
  | succ k ih =>
    intro i s hk hi hst hS hR
    have hlt : i < n := by omega
    refine codeAny_builtin (PyProof.Rows.F.entry_set_update_loop) ?_; rw [Around.under_plainId (PyProof.Rows.F.plain_set_update_loop) _]
    show wpAny _ A.in1 (pyNext (.ref I) >>= _) _ _ s; refine wpAny_bind (W.item i s _ _ hlt hst fun v s' hP hst' hm => ?_)
    obtain ⟨t, rfl⟩ := hval i v hP
    have hS' := keep hS hm
    have hx : xs[i]? = some (xs.getD i Str.empty) := by
      have : i < xs.length := by omega
      simp [List.getD, this]
    show wpAny _ A.in1 (holding [Value.str (xs.getD i Str.empty) t] (setAdd S (.str (xs.getD i Str.empty) t)) >>= _) _ _ s'; refine wpAny_bind (wpAny_holding ?_); unfold setAdd
    refine wpAny_holding (wpAny_bind ((PySem.strKind prog w).pyHash (k := xs.getD i Str.empty) (strKind_is _ _ _ _) ?_))
    refine wpAny_setAddHashed_of (knd := PySem.strKind prog w) (s := { s' with toks := s'.toks + 1 }) (strKind_is _ _ _ _) rfl hS' (by unfold scanBound; omega) fun h' hsb hS2 => ?_
    have hSi : h'.SetOf (PySem.strKind prog w) S (fun k' => (xs.take (i + 1)).any (· == k')) (i + 1) := SetOf_congr hS2 (fun k' => take_any hx k') (by rw [take_no hnd hx]; rfl)
    refine wpAny_pure ⟨plainId_quiet (PyProof.Rows.F.plain_set_update_loop) _, ih (i + 1) _ (by omega) hlt (W.frame _ s' _ _ hst' (Nat.le_succ _) fun b hb o e => ?_) hSi fun s'' hm'' hS'' => ?_⟩
    · rw [hsb.2 b (fun h : b = S => hSf (h ▸ hb))]; exact e
    · refine hR s'' (Moved.trans W.gtrans ((hm.mono hsub).then_heap (Nat.le_succ _) fun b o hb e => ?_) hm'') hS''
      rw [hsb.2 b (fun h : b = S => hb (h ▸ List.mem_cons_self))]; exact e
end
section
variable {prog : Program} {w : World} {A : Around} {E : Value → Shared → Prop} {s : Shared}
theorem call_setU {l : Addr} {items : Array Value} {xs : List Str} {Q : Value → Shared → Prop} (hh : A.handled = none) (hl : s.heap.IsTuple l items) (hi : PyProof.Rows.StrsAre items.toList xs) (hnd : xs.Nodup) (h64 : xs.length < 64)
    (h : ∀ (h' : Heap) (tk : Nat), h'.SetOf (PySem.strKind prog w) s.heap.objs.size (fun k' => (xs.take items.size).any (· == k')) items.size → (∀ b o, b < s.heap.objs.size → s.heap.get? b = some o → h'.get? b = some o) → Q (.ref s.heap.objs.size) { s with heap := h', toks := tk }) :
    wpAny (model prog w) A (call (.type "set") [.ref l]) Q E s := by
  obtain ⟨c, tl, hmro⟩ := PySem.F.called_set.mro; have hmade := PySem.F.called_set.made; have hsub := PySem.F.called_set.sub
  refine wpAny_call (codeAny_of_tree ?_); show wpAny _ _ (callAny (.type "set") _) _ _ _
  refine wpAny_pure ⟨Code.quiet_builtin _ (by decide +kernel), codeAny_builtin (PySem.F.entry_type_call) ?_⟩; rw [Around.under_plain (weight_type_call_type "set" [.ref l] []) rfl]
  have h1 := PySem.F.called_set.notType; have h2 := PySem.F.called_set.canCreate; have hct := PySem.F.typeCall_set_1 (.ref l)
  repeat (any_goals (first | assumption | wp_step))
  refine codeAny_mono (code_set_new_1 (.ref l) (E := E) (Q₁ := fun obj s₁ => ∃ led : Bool, obj = .ref s.heap.objs.size ∧ s₁ = { s with heap := s.heap.push { cls := .type "set", dict := none, data := .set #[] 0 (.fresh 0 0 led) } }) (fun led => ⟨led, rfl, rfl⟩)) fun r s₁ hr => ?_
  match r, hr with
  | .ok (.ret obj), hr =>
    obtain ⟨led, rfl, rfl⟩ := hr
    have hS : (s.heap.push { cls := .type "set", dict := none, data := .set #[] 0 (.fresh 0 0 led) }).get? s.heap.objs.size = some { cls := .type "set", dict := none, data := .set #[] 0 (.fresh 0 0 led) } := Heap.get?_push_size _ (rfl)
    have hT : Shared.TypeIs { s with heap := s.heap.push { cls := .type "set", dict := none, data := .set #[] 0 (.fresh 0 0 led) } } (.ref s.heap.objs.size) "set" := ⟨_, hS, (rfl)⟩
    have hli := PySem.F.called_set.init.lookup; have hbi := PySem.F.called_set.init.bind (.ref s.heap.objs.size)
    repeat (any_goals (first | assumption | wp_step))
    refine codeAny_mono (codeAny_call_builtin (R := wants (fun r s₂ => r = .none ∧ ∃ h' tk, s₂ = { s with heap := h', toks := tk } ∧ h'.SetOf (PySem.strKind prog w) s.heap.objs.size (fun k' => (xs.take items.size).any (· == k')) items.size ∧
        (∀ b o, b < s.heap.objs.size → s.heap.get? b = some o → h'.get? b = some o)) E) PySem.F.called_set.init.plain PySem.F.entry_set_init (check_set_init_1 hT ?_)) fun r₂ s₂ hr₂ => ?_
    · obtain ⟨⟨ocls, odict, odata, oslots⟩, hol, hcl, nl, hdl⟩ := hl
      simp only at hcl hdl
      subst hcl; subst hdl
      have hol' : (s.heap.push { cls := .type "set", dict := none, data := .set #[] 0 (.fresh 0 0 led) }).get? l = some { cls := .type "tuple", dict := odict, data := .seq items nl, slots := oslots } := Heap.get?_push_of_some _ (hol)
      have hsls := PySem.F.sub_tuple_set; have hslf := PySem.F.sub_tuple_frozenset; have hne : (Value.type "tuple" == Value.type "dict") = false := by decide
      have hl1 : (s.heap.push { cls := .type "set", dict := none, data := .set #[] 0 (.fresh 0 0 led) }).IsTuple l items := ⟨_, hol', rfl, nl, (rfl)⟩
      unfold Builtin.«set.__init__» noKeywords Builtin.Frozenset.updateFrom; generalize hPI : pyIter = PI
      wp_walk
      subst hPI
      refine wpAny_pyIter_tuple hl1 (wpAny_bind (wpAny_runValue ?_))
      have hlS : l < s.heap.objs.size := Heap.lt_size hol; have hh3 : A.in1.in1.in1.handled = none := by simp [hh]
      have hneI : l ≠ (s.heap.push { cls := .type "set", dict := none, data := .set #[] 0 (.fresh 0 0 led) }).objs.size := Heap.size_push .. ▸ Nat.ne_of_lt (Nat.lt_succ_of_lt hlS)
      have hSf : s.heap.objs.size ∉ [(s.heap.push { cls := .type "set", dict := none, data := .set #[] 0 (.fresh 0 0 led) }).objs.size, l] := by
        rw [Heap.size_push]; intro q
        rcases List.mem_cons.mp q with q | q
        · exact absurd q (Nat.ne_of_lt (Nat.lt_succ_self _))
        · exact absurd (List.mem_singleton.mp q) (Nat.ne_of_gt hlS)
      have hsz : xs.length = items.size := StrsAre.len_eq hi ▸ Array.length_toList
      refine loopNd ((Walks.tuple hh3 _ l hneI items).toS) s.heap.objs.size hSf xs hsz hnd (by rw [← hsz]; exact h64) (fun i v hv => SS.strs_at hi i v (by rw [Array.getElem?_toList]; exact hv)) (items.size - 0) 0 _ (by omega) (Nat.zero_le _) ⟨⟨_, Heap.get?_push_size _ rfl, rfl, rfl⟩, (hl1.push _)⟩ ?hS0 ?hR
      case hS0 =>
        have hget : ((s.heap.push { cls := .type "set", dict := none, data := .set #[] 0 (.fresh 0 0 led) }).push { cls := .type "tuple_iterator", data := .fields #[.ref l, .int 0 0] }).get? s.heap.objs.size = some { cls := .type "set", dict := none, data := .set #[] 0 (.fresh 0 0 led) } := Heap.get?_push_of_some _ (hS)
        exact PyProof.Rows.SetOf_congr ((PyProof.Rows.setObjOf_fresh (knd := PySem.strKind prog w) led).setOf hget (by unfold scanBound; omega)) (fun _ => (rfl)) rfl
      case hR =>
        intro s' hm hS'
        obtain ⟨h', g', d', tk', os'⟩ := s'
        obtain rfl : g' = s.gens := hm.gens
        obtain rfl : d' = s.drawn := hm.drawn
        obtain rfl : os' = s.os := hm.os
        show wpAny _ _ _ _ _ _
        refine wpAny_pure (show wpAny _ _ (ret Value.none) _ _ _ from wpAny_pure ⟨rfl, h', tk', rfl, hS', fun b o hb e => ?_⟩)
        have hb1 : b ≠ s.heap.objs.size := Nat.ne_of_lt hb; have hb2 : b ≠ (s.heap.push { cls := .type "set", dict := none, data := .set #[] 0 (.fresh 0 0 led) }).objs.size := Heap.size_push .. ▸ Nat.ne_of_lt (Nat.lt_succ_of_lt hb)
        exact hm.heap b o (by simp only [List.mem_cons, List.mem_singleton, List.not_mem_nil, or_false, not_or]; exact ⟨hb1, (hb2)⟩) (Heap.get?_push_of_some _ (Heap.get?_push_of_some _ e))
    · match r₂, hr₂ with
      | .ok (.ret r), hr₂ =>
        obtain ⟨rfl, h', tk, rfl, hS', hk'⟩ := hr₂
        repeat (any_goals (first | assumption | wp_step))
        exact h _ _ hS' hk'
      | .error e, hr₂ => exact hr₂
  | .error e, hr => exact hr
end
section
variable {X : Cx}
/-- len(set(t)), t a tuple of different texts -/
def tLenSetU (K : PySem.W.Frag) (ta : TE) : TE := fun σ H Q => ta σ H fun x H1 => ∃ (l : Addr) (xs : List Str), x = .ref l ∧ SqT K H1 l (xs.map V.str) ∧ xs.Nodup ∧ xs.length < 64 ∧ Q (.int xs.length) H1
theorem pe_lenSetU {a : Expr} {ta : TE} {p p2 q pos : Pos} (hc : X.calm = true) (hg : Gl X "len") (hm : X.mg "len" = none) (hg2 : Gl X "set") (hm2 : X.mg "set" = none) (ha : PE X a ta)
    (na : starEach [a] X.env = (false, eval a X.env) :: starEach [] X.env := by rfl) : PE X (.Call (.Name "len" p) [.Call (.Name "set" p2) [a] [] q] [] pos) (tLenSetU X.K ta) := by
  refine ⟨fun pins s σ H Q I h => Call_ (ld_blt I hg hm boot_len (PyProof.Rows.callWith_builtin1 (PyProof.Rows.args_cons ?_ rfl) rfl rfl))⟩
  refine Call_ (ld_blt I hg2 hm2 boot_set (PyProof.Rows.callWith_type1 (PyProof.Rows.args_cons (thn (ha.run pins s σ H _ I h) fun v s1 ⟨x, H1, I1, r1, q1⟩ => PyProof.Rows.args_nil ?_) na) na rfl))
  obtain ⟨l, xs, rfl, hq, hnd, h64, q1⟩ := q1
  cases r1
  obtain ⟨its, r, pl, hz⟩ := I1.tuple hq
  have hl : its.toArray.size = xs.length := by rw [List.size_toArray, ← r.length, List.length_map]
  refine call_setU (I1.ok.hd hc) pl (by simpa using strsAre_of r) hnd h64 fun h' tk hS hk => PyProof.Rows.args_nil ?_
  rw [hl] at hS
  obtain ⟨o, es, ep, t, ho, hex, hd, _, _, _, hf, hn⟩ := hS
  have I2 : Inv X pins σ H1 { s1 with heap := h', toks := tk } := I1.kept fun b o e => hk b o (Heap.lt_size e) e
  exact call_len_set ho hex hd hf (by rw [hn] <;> omega) ⟨.int xs.length, H1, I2.tok _, ⟨_, by rw [hn]⟩, q1⟩
end
end K29
set_option Elab.async false
set_option linter.all false
set_option maxRecDepth 100000
set_option maxHeartbeats 4000000
/-! dict(t) of a tuple of pairs, a def with a star parameter whose tuple's own object is known, text * int. -/
namespace K29
open PySem PySem.Spec PyProof.Rows L2
/-- the object that a star parameter binds -/
def stO (us : List Value) : Obj := { cls := .type "tuple", data := .seq us.toArray }
/-- a star parameter's tuple at p -/
def StarAt (H : Hp) (p : Addr) (xs : List V) : Prop := ∃ us, H p = some (.frz (stO us) (.tup xs))
theorem StarAt.t {K : PySem.W.Frag} {H : Hp} {p : Addr} {xs : List V} (h : StarAt H p xs) : SqT K H p xs := by
  obtain ⟨us, e⟩ := h
  exact .inl (.inr ⟨_, e⟩)
section
variable {CX : CXT} {P : Program} {w : World} {K : PySem.W.Frag} {mg : Str → Option Value} {base : Heap} {k : Nat} {f : Addr} {name qual : Str} {params : Arguments} {body : List Stmt} {scope : Scope} {dV kV doc pm cdv ct oc : Value} {an od : Option Addr}
  {osl : Array (Option Value)} {N ps : List Str} {sp : Sp}
/-- def f(a, .., *v) -/
theorem fn_starF {pv : Str} (lk : K.lookup f = some ⟨oc, od, .func (PySem.W.fnOf name qual params body scope dV kV doc pm an cdv ct), osl⟩) (hcd : PySem.W.codeIn K cdv qual = true) (S : FnScope N (ps ++ [pv]) scope) (hCX : StX.CXUp CX)
    (hb : ∀ us rest : List Value, us.length = ps.length → bindArgs (PySem.W.fnOf name qual params body scope dV kV doc pm an cdv ct) ⟨us ++ rest, []⟩ = (newTuple rest >>= fun t => pure (ps.zip us ++ [(pv, t)])))
    (hbody : ∀ (A : Around) (outer : List Env) (s : Shared) (H : Hp) (vs : List V) (Q : VK) (E : XK), Room k (A.deeper (envOfC qual scope s.heap.objs.size f cdv)) → sp vs H Q E →
      ∃ t, PSs (cxOf CX P w K mg base N qual scope f cdv A outer s H E) body t ∧ t { nx := fun _ H' => Q .non H', rt := Q } (start N vs) H) :
    FnR P w K mg base CX (k + 1) f (fun vs H Q E => ∃ ws rest, vs = ws ++ rest ∧ ws.length = ps.length ∧ rest.length ≤ sizeLine ∧ ∀ p us, H p = Option.none → sp (ws ++ [V.ref p]) (upd H p (.frz (stO us) (.tup rest))) Q E) := by
  intro A outer s H us vs Q E hr e0 r hsp
  obtain ⟨ws, rest, rfl, hl, hz, hq⟩ := hsp
  obtain ⟨u1, u2, rfl, r1, r2⟩ := StX.vals_split r
  have hn : H s.heap.objs.size = Option.none := e0.hok.fresh (Nat.le_refl s.heap.objs.size)
  have hl1 : u1.length = ps.length := r1.length ▸ hl
  have hl2 : u2.length ≤ sizeLine := r2.length ▸ hz
  refine StX.run_bnd lk hcd S hr e0 (G := fun xs H2 => ∃ p us, H p = Option.none ∧ xs = ws ++ [V.ref p] ∧ H2 = upd H p (.frz (stO us) (.tup rest))) (fun A' Ex Q' h => ?_) fun s2 H2 xs ⟨p, us, hp, ex, eH⟩ hr' => ?_
  · rw [hb u1 u2 hl1]
    refine wpAny_bind (wpAny_newTuple (wpAny_pure ?_) (hl2))
    have at_ : (s.heap.push (stO u2)).get? s.heap.objs.size = some (stO u2) := Heap.get?_push_size _ rfl
    have new : ObjOk P w (upd H s.heap.objs.size (.frz (stO u2) (.tup rest))) (s.heap.push (stO u2)) s.heap.objs.size (.frz (stO u2) (.tup rest)) := ⟨at_, hz, u2, r2, ⟨_, at_, rfl, _, rfl⟩⟩
    have un := StX.un_laid (fs := frs outer) (s := s) (o := stO u2) (u := .frz (stO u2) (.tup rest)) hn
    have z := h _ _ (ws ++ [V.ref s.heap.objs.size]) (u1 ++ [Value.ref s.heap.objs.size]) (StX.env0_laid e0 new) un rfl (fun e s' => hCX outer s H _ _ E e s' un (fun b o q => Heap.get?_push_of_some _ q) rfl) (r1.append (.cons rfl .nil))
      (by rw [List.length_append, List.length_append, hl] <;> rfl) ⟨_, u2, hn, rfl, rfl⟩
    rw [List.zip_append hl1.symm] at z
    exact z
  · subst ex eH
    exact hbody A outer s2 _ _ Q E hr' (hq p us hp)
end
section
variable {X : Cx}
/-- dict(t) of a star parameter's tuple of pairs -/
theorem call_dictU (hcalm : X.calm = true) : CallR X (.type "dict") (fun xs H Q => ∃ (a : Addr) (ps : List Addr) (kvs : List (Key × V)), xs = [.ref a] ∧ StarAt H a (ps.map V.ref) ∧ Paired (fun p kv => SqT X.K H p [kV kv.1, kv.2]) ps kvs ∧
    ∀ p, H p = none → Q (.ref p) (upd H p (.dK (mergeK [] kvs)))) := by
  intro pins s σ H xs us Q I r q
  obtain ⟨a, ps, kvs, rfl, ⟨us', ea⟩, hp, q⟩ := q
  obtain ⟨u, rfl, rx⟩ := vals1 r
  cases rx
  obtain ⟨ho, hz, its, rv, pl⟩ := (show ObjOk X.prog X.w H s.heap a (.frz (stO us') (.tup (ps.map V.ref))) from I.hok a _ ea)
  have ei := refs_at rv
  subst ei
  rw [List.length_map] at hz
  obtain ⟨o2, ho2, _, n2, hd2⟩ := pl
  have eo : o2 = stO us' := Option.some.inj (ho2.symm.trans ho)
  subst eo
  obtain ⟨prs, rel, hl, hpr⟩ := pairs_of I hp
  have get : ∀ (j : Nat) (hj : j < prs.length), ∃ (b : Addr) (u : Value), ps[j]? = some b ∧ IsTup s.heap b #[u, (prs[j]).2] ∧ keyIs (prs[j]).1 u = true := fun j hj => hpr j _ (List.getElem?_eq_getElem hj)
  -- the pairs as values, by the object that each stands at
  have vals : ∃ vps : List (Value × Value), vps.length = prs.length ∧ ∀ (j : Nat) (q : Key × Value), prs[j]? = some q → ∃ (b : Addr) (u : Value), ps[j]? = some b ∧ vps[j]? = some (u, q.2) ∧ IsTup s.heap b #[u, q.2] ∧ keyIs q.1 u = true := by
    clear get rel ho ea hz ho2 hd2
    revert hl hpr
    generalize ps = ps'
    intro hl hpr
    induction prs generalizing ps' with
    | nil => exact ⟨[], rfl, fun j q e => by simp at e⟩
    | cons x rest ih =>
      obtain ⟨b, u, e1, e2, e3⟩ := hpr 0 x rfl
      obtain ⟨b', ps'', rfl⟩ : ∃ b' ps'', ps' = b' :: ps'' := by
        cases ps' with
        | nil => simp at e1
        | cons b' ps'' => exact ⟨b', ps'', rfl⟩
      obtain ⟨vps, l, hv⟩ := ih ps'' (by simpa using hl) fun j q e => by
        obtain ⟨b2, u2, g1, g2, g3⟩ := hpr (j + 1) q (by simpa using e)
        exact ⟨b2, u2, by simpa using g1, g2, g3⟩
      refine ⟨(u, x.2) :: vps, by simp [l], fun j q e => ?_⟩
      cases j with
      | zero =>
        have e' : x = q := by simpa using e
        subst e'
        exact ⟨b, u, e1, rfl, e2, e3⟩
      | succ j =>
        obtain ⟨b2, u2, g1, g2, g3, g4⟩ := hv j q (by simpa using e)
        exact ⟨b2, u2, by simpa using g1, by simpa using g2, g3, g4⟩
  obtain ⟨vps, hvl, hv⟩ := vals
  have items : PairItems s.heap us'.toArray (fun j => ps.getD j 0) vps := by
    have es : us'.toArray = (ps.map Value.ref).toArray := by
      have z : Data.seq us'.toArray 0 = .seq (ps.map Value.ref).toArray n2 := hd2
      injection z
    refine ⟨by rw [es]; simp [hvl, hl], fun j k v e => ?_⟩
    have hj : j < prs.length := hvl ▸ (List.getElem?_eq_some_iff.mp e).1
    obtain ⟨b, u, e1, e2, e3, _⟩ := hv j _ (List.getElem?_eq_getElem hj)
    rw [e] at e2
    obtain ⟨rfl, rfl⟩ := Prod.mk.inj (Option.some.inj e2)
    have eb : ps.getD j 0 = b := by simp [List.getD, e1]
    dsimp only
    rw [eb, es]
    exact ⟨by simp [e1], .inl e3⟩
  refine PySem.call_dict_pairs (knd := mixKind X.prog X.w) (kvs := prs) (PairArg.tuple a us'.toArray (fun j => ps.getD j 0) vps) (I.ok.hd hcalm) ⟨⟨stO us', 0, ho, rfl, rfl, rfl⟩, items⟩ ⟨hvl.symm, fun i key v e => ?_⟩ (by rw [hvl, hl]; exact hz) fun h' tk hd' kp => ?_
  · have hj : i < prs.length := hvl ▸ (List.getElem?_eq_some_iff.mp e).1
    obtain ⟨b, u, e1, e2, e3, e4⟩ := hv i _ (List.getElem?_eq_getElem hj)
    have e2' := e2.symm.trans e
    obtain ⟨rfl, rfl⟩ := Prod.mk.inj (Option.some.inj e2')
    exact ⟨(prs[i]).1, List.getElem?_eq_getElem hj, e4⟩
  · have hm : (s.heap.objs.size == sysModules) = false := beq_eq_false_iff_ne.mpr (Nat.ne_of_gt I.big)
    have hlen : (mergeK [] kvs).length ≤ sizeLine := by
      refine Nat.le_trans (length_mergeK kvs []) ?_
      rw [List.length_nil, Nat.zero_add, rel.length, hl]; exact hz
    exact ⟨.ref s.heap.objs.size, upd H s.heap.objs.size (.dK (mergeK [] kvs)), I.laid (t' := tk) (fun b o e => kp b o (by simp) e) (Nat.le_refl _) (show ObjOk X.prog X.w _ _ _ (.dK (mergeK [] kvs)) from ⟨hlen, hm, merged [] prs, KV.merge rel .nil, hd'⟩), rfl, q _ (I.hok.fresh (Nat.le_refl _))⟩
/-- text * int, small -/
def rMulS : R2 := fun x y H Q => ∃ (z : Str) (i : Int), x = .str z ∧ y = .int i ∧ z.length ≤ 16 ∧ 0 ≤ i ∧ i ≤ 1000 ∧ Q (.str (PySem.Txt.mul z i)) H
theorem op_mulS : OpR X (binaryOp .Mult) rMulS := by
  intro pins s σ H x y v u Q I rx ry h
  obtain ⟨z, i, rfl, rfl, hz, h0, h1, q⟩ := h
  obtain ⟨t, rfl⟩ := rx
  obtain ⟨t', rfl⟩ := ry
  exact PySem.W.KXi.mul rfl hz (by omega) (by omega) fun t2 k _ _ => ⟨.str (PySem.Txt.mul z i), H, I.tok _, ⟨t2, rfl⟩, q⟩
end
end K29
set_option Elab.async false
set_option linter.all false
set_option maxRecDepth 100000
set_option maxHeartbeats 4000000
/-! Data of any depth in the heap: ==, in. -/
namespace K29
open PySem PySem.Spec PyProof.Rows L2 Evl
mutual
theorem dp_ex {K : PySem.W.Frag} {H H' : Hp} (e : Ex H H') : ∀ (d : PyData) (v : V), Dp K H v d → Dp K H' v d
  | .none, _, h => by cases h; exact .non
  | .bool b, _, h => by cases h; exact .bl b
  | .int i, _, h => by cases h; exact .int i
  | .str x, _, h => by cases h; exact .str x
  | .list ds, _, h => by
    cases h with
    | lst s a => exact .lst (ex_l e s) (dpAll_ex e ds _ a)
  | .tuple ds, _, h => by
    cases h with
    | tup s a => exact .tup (ex_t e s) (dpAll_ex e ds _ a)
  | .dict kvs, _, h => by cases h
theorem dpAll_ex {K : PySem.W.Frag} {H H' : Hp} (e : Ex H H') : ∀ (ds : List PyData) (vs : List V), DpAll K H vs ds → DpAll K H' vs ds
  | [], _, h => by cases h; exact .nil
  | d :: ds, _, h => by
    cases h with
    | cons a b => exact .cons (dp_ex e d _ a) (dpAll_ex e ds _ b)
end
theorem dpAll_map {K : PySem.W.Frag} {H : Hp} {α : Type} (f : α → V) (g : α → PyData) : ∀ (l : List α), (∀ x ∈ l, Dp K H (f x) (g x)) → DpAll K H (l.map f) (l.map g)
  | [], _ => .nil
  | a :: l, h => .cons (h a List.mem_cons_self) (dpAll_map f g l fun x hx => h x (List.mem_cons_of_mem _ hx))
theorem dpAll_S {K : PySem.W.Frag} {H : Hp} (xs : List Str) : DpAll K H (xs.map V.str) (xs.map PyData.str) := dpAll_map _ _ xs fun x _ => .str x
/-- a value that reads as d -/
def EvD (K : PySem.W.Frag) (te : TE) (σ : L2.St) (H : Hp) (d : PyData) : Prop := EvP te σ H fun x H1 => Dp K H1 x d
section
variable {K : PySem.W.Frag} {σ : L2.St} {H H' : Hp} {te ta tb : TE} {x y z v : V} {d e : PyData}
theorem ev_dat (h : Ev te σ H v) (k : Dp K H v d) : EvD K te σ H d := fun H1 e Q q => h H1 e _ fun H2 e2 => q v H2 e2 (dp_ex (e.trans e2) d v k)
theorem el_dat {xs : List V} {ds : List PyData} (h : EvL te σ H xs) (k : ∀ H1, Ex H H1 → DpAll K H1 xs ds) : EvD K te σ H (.list ds) := fun H1 e Q q => h H1 e _ fun p H2 _ e2 h2 => q (.ref p) H2 e2 (.lst (sq_of h2) (k H2 (e.trans e2)))
theorem eu_dat {xs : List V} {ds : List PyData} (h : EvU te σ H xs) (k : ∀ H1, Ex H H1 → DpAll K H1 xs ds) : EvD K te σ H (.tuple ds) := fun H1 e Q q => h H1 e _ fun p H2 _ e2 h2 => q (.ref p) H2 e2 (.tup (st_of h2) (k H2 (e.trans e2)))
theorem ev_eqD (ha : EvD K ta σ H d) (hb : EvD K tb σ H e) (hd : SeqAt.shaped d = true) (he : SeqAt.shaped e = true) : Ev (tOp (rEqD K) ta tb) σ H (.bl (PyData.eqv d e)) := fun H1 e1 Q q =>
  ha H1 e1 _ fun x H2 e2 r2 => hb H2 (e1.trans e2) _ fun y H3 e3 r3 => ⟨d, e, dp_ex e3 d x r2, r3, hd, he, q H3 (e2.trans e3)⟩
theorem ev_neD (ha : EvD K ta σ H d) (hb : EvD K tb σ H e) (hd : SeqAt.shaped d = true) (he : SeqAt.shaped e = true) : Ev (tOp (rNeD K) ta tb) σ H (.bl (!PyData.eqv d e)) := fun H1 e1 Q q =>
  ha H1 e1 _ fun x H2 e2 r2 => hb H2 (e1.trans e2) _ fun y H3 e3 r3 => ⟨d, e, dp_ex e3 d x r2, r3, hd, he, q H3 (e2.trans e3)⟩
theorem eu_nil : EvU (tTup tNil) σ H [] := eu_tup ea_nil (by decide)
theorem el_nil : EvL (tLst tNil) σ H [] := el_lst ea_nil (by decide)
theorem ev_inU {ds : List PyData} (ha : EvD K ta σ H d) (hb : EvD K tb σ H (.tuple ds)) (hd : SeqAt.shaped d = true) (he : SeqAt.shaped (.tuple ds) = true) : Ev (tOp (rInU K) ta tb) σ H (.bl (ds.any fun z => PyData.eqv z d)) := fun H1 e1 Q q =>
  ha H1 e1 _ fun x H2 e2 r2 => hb H2 (e1.trans e2) _ fun y H3 e3 r3 => ⟨d, ds, dp_ex e3 d x r2, r3, hd, he, q H3 (e2.trans e3)⟩
end
/-! ### shapes -/
theorem nm_ok {r : Str} (h : IsName r) : PyData.strOk r = true := by
  unfold PyData.strOk
  refine Array.all_eq_true.mpr fun i hi => decide_eq_true ?_
  have := (h.2.2 r.cps[i] (by simp)).2
  omega
/-- a copy -/
def cpD (c : Str × Int) : PyData := .tuple [.str c.1, .int c.2]
theorem all_lay {α : Type} (f : α → PyData) : ∀ l : List α, (∀ x ∈ l, (f x).canLay0 = true) → PyData.canLayAll0 (l.map f) = true
  | [], _ => by simp [PyData.canLayAll0]
  | a :: l, h => by
    rw [List.map_cons]
    simp only [PyData.canLayAll0, Bool.and_eq_true]
    exact ⟨h a List.mem_cons_self, all_lay f l fun x hx => h x (List.mem_cons_of_mem _ hx)⟩
theorem all_depth {α : Type} (f : α → PyData) (n : Nat) : ∀ l : List α, (∀ x ∈ l, (f x).depth ≤ n) → PyData.depthAll (l.map f) ≤ n
  | [], _ => by simp [PyData.depthAll]
  | a :: l, h => by
    have h1 := h a List.mem_cons_self
    have h2 := all_depth f n l fun x hx => h x (List.mem_cons_of_mem _ hx)
    rw [List.map_cons]
    simp only [PyData.depthAll]
    omega
theorem shaped_t {ds : List PyData} (h1 : PyData.canLayAll0 ds = true) (h2 : PyData.depthAll ds ≤ 60) : SeqAt.shaped (.tuple ds) = true := by
  show ((PyData.tuple ds).canLay0 && decide ((PyData.tuple ds).depth ≤ 64)) = true
  rw [Bool.and_eq_true]
  refine ⟨by simp only [PyData.canLay0]; exact h1, decide_eq_true ?_⟩
  simp only [PyData.depth]
  omega
theorem shaped_l {ds : List PyData} (h1 : PyData.canLayAll0 ds = true) (h2 : PyData.depthAll ds ≤ 60) : SeqAt.shaped (.list ds) = true := by
  show ((PyData.list ds).canLay0 && decide ((PyData.list ds).depth ≤ 64)) = true
  rw [Bool.and_eq_true]
  refine ⟨by simp only [PyData.canLay0]; exact h1, decide_eq_true ?_⟩
  simp only [PyData.depth]
  omega
theorem str_lay {xs : List Str} (h : ∀ x ∈ xs, PyData.strOk x = true) : PyData.canLayAll0 (xs.map PyData.str) = true := all_lay _ xs fun x hx => by
  simp only [PyData.canLay0]
  exact h x hx
theorem str_depth (xs : List Str) : PyData.depthAll (xs.map PyData.str) ≤ 0 := all_depth _ 0 xs fun x _ => by simp [PyData.depth]
theorem shaped_S {xs : List Str} (h : ∀ x ∈ xs, PyData.strOk x = true) : SeqAt.shaped (.tuple (xs.map PyData.str)) = true := shaped_t (str_lay h) (Nat.le_trans (str_depth xs) (by decide))
theorem shaped_SL {xs : List Str} (h : ∀ x ∈ xs, PyData.strOk x = true) : SeqAt.shaped (.list (xs.map PyData.str)) = true := shaped_l (str_lay h) (Nat.le_trans (str_depth xs) (by decide))
theorem cp_lay {c : Str × Int} (h : PyData.strOk c.1 = true) : (cpD c).canLay0 = true := by simp [cpD, PyData.canLay0, PyData.canLayAll0, h]
theorem cp_depth (c : Str × Int) : (cpD c).depth ≤ 1 := by simp [cpD, PyData.depth, PyData.depthAll]
theorem shaped_cp {c : Str × Int} (h : PyData.strOk c.1 = true) : SeqAt.shaped (cpD c) = true := by
  show ((cpD c).canLay0 && decide ((cpD c).depth ≤ 64)) = true
  rw [Bool.and_eq_true]
  exact ⟨cp_lay h, decide_eq_true (Nat.le_trans (cp_depth c) (by decide))⟩
theorem shaped_C {cs : List (Str × Int)} (h : ∀ c ∈ cs, PyData.strOk c.1 = true) : SeqAt.shaped (.tuple (cs.map cpD)) = true := shaped_t (all_lay _ cs fun c hc => cp_lay (h c hc)) (Nat.le_trans (all_depth _ 1 cs fun c _ => cp_depth c) (by decide))
theorem shaped_CL {cs : List (Str × Int)} (h : ∀ c ∈ cs, PyData.strOk c.1 = true) : SeqAt.shaped (.list (cs.map cpD)) = true := shaped_l (all_lay _ cs fun c hc => cp_lay (h c hc)) (Nat.le_trans (all_depth _ 1 cs fun c _ => cp_depth c) (by decide))
theorem shaped_0 : SeqAt.shaped (.tuple []) = true := shaped_t (by simp [PyData.canLayAll0]) (by simp [PyData.depthAll])
theorem shaped_0L : SeqAt.shaped (.list []) = true := shaped_l (by simp [PyData.canLayAll0]) (by simp [PyData.depthAll])
theorem eqv_t (a b : List PyData) : PyData.eqv (.tuple a) (.tuple b) = PyData.eqvAll a b := by simp only [PyData.eqv]
theorem eqv_l (a b : List PyData) : PyData.eqv (.list a) (.list b) = PyData.eqvAll a b := by simp only [PyData.eqv]
theorem eqv_nil : ∀ a : List PyData, PyData.eqvAll a [] = a.isEmpty
  | [] => by simp [PyData.eqvAll]
  | _ :: _ => by simp [PyData.eqvAll]
theorem eqv_map {α : Type} [DecidableEq α] (f : α → PyData) (hf : ∀ x y, PyData.eqv (f x) (f y) = decide (x = y)) : ∀ a b : List α, PyData.eqvAll (a.map f) (b.map f) = decide (a = b)
  | [], [] => by simp [PyData.eqvAll]
  | [], _ :: _ => by simp [PyData.eqvAll]
  | _ :: _, [] => by simp [PyData.eqvAll]
  | x :: a, y :: b => by
    rw [List.map_cons, List.map_cons]
    simp only [PyData.eqvAll]
    rw [hf, eqv_map f hf a b]
    by_cases h1 : x = y
    · by_cases h2 : a = b <;> simp [h1, h2]
    · simp [h1]
theorem eqv_str (x y : Str) : PyData.eqv (.str x) (.str y) = decide (x = y) := by
  simp only [PyData.eqv]
  by_cases h : x = y
  · subst h; simp
  · rw [decide_eq_false h]; exact beq_eq_false_iff_ne.mpr h
theorem eqv_cp (x y : Str × Int) : PyData.eqv (cpD x) (cpD y) = decide (x = y) := by
  obtain ⟨a, b⟩ := x
  obtain ⟨c, d⟩ := y
  unfold cpD
  simp only [PyData.eqv, PyData.eqvAll, Bool.and_true]
  by_cases h1 : a = c
  · by_cases h2 : b = d
    · subst h1 h2; simp
    · have : (b == d) = false := beq_eq_false_iff_ne.mpr h2
      simp [h1, h2, this]
  · have : (a == c) = false := beq_eq_false_iff_ne.mpr h1
    simp [h1, this]
section
variable {K : PySem.W.Frag} {σ : L2.St} {H H' : Hp} {te ta tb : TE} {x y z v : V}
/-- a tuple, a list compared with an empty one -/
theorem ev_ne0 {ds : List PyData} (ha : EvD K ta σ H (.tuple ds)) (hs : SeqAt.shaped (.tuple ds) = true) : Ev (tOp (rNeD K) ta (tTup tNil)) σ H (.bl (!ds.isEmpty)) := by
  have h := ev_neD ha (eu_dat (K := K) (σ := σ) (H := H) eu_nil fun _ _ => .nil) hs shaped_0
  rw [eqv_t, eqv_nil] at h
  exact h
theorem ev_eq0 {ds : List PyData} (ha : EvD K ta σ H (.tuple ds)) (hs : SeqAt.shaped (.tuple ds) = true) : Ev (tOp (rEqD K) ta (tTup tNil)) σ H (.bl ds.isEmpty) := by
  have h := ev_eqD ha (eu_dat (K := K) (σ := σ) (H := H) eu_nil fun _ _ => .nil) hs shaped_0
  rw [eqv_t, eqv_nil] at h
  exact h
theorem ev_ne0L {ds : List PyData} (ha : EvD K ta σ H (.list ds)) (hs : SeqAt.shaped (.list ds) = true) : Ev (tOp (rNeD K) ta (tLst tNil)) σ H (.bl (!ds.isEmpty)) := by
  have h := ev_neD ha (el_dat (K := K) (σ := σ) (H := H) el_nil fun _ _ => .nil) hs shaped_0L
  rw [eqv_l, eqv_nil] at h
  exact h
theorem ev_eq0L {ds : List PyData} (ha : EvD K ta σ H (.list ds)) (hs : SeqAt.shaped (.list ds) = true) : Ev (tOp (rEqD K) ta (tLst tNil)) σ H (.bl ds.isEmpty) := by
  have h := ev_eqD ha (el_dat (K := K) (σ := σ) (H := H) el_nil fun _ _ => .nil) hs shaped_0L
  rw [eqv_l, eqv_nil] at h
  exact h
end
end K29
set_option Elab.async false
set_option linter.all false
set_option maxRecDepth 100000
set_option maxHeartbeats 4000000
/-! row_text, sheet_text, copies_text: some text of some bounded length. -/
namespace K29
open PySem PySem.Spec PyProof.Rows L2 Evl
section
variable {K : PySem.W.Frag} {σ : L2.St} {H H' : Hp} {te ta tb : TE} {x y z v : V}
/-- a text of at most n signs -/
def StrLe (n : Nat) : V → Hp → Prop := fun v _ => ∃ z : Str, v = .str z ∧ z.length ≤ n
theorem evp_join {sep : Str} {ys : List Str} {n m : Nat} (ha : Ev ta σ H (.str sep)) (hb : EvL tb σ H (ys.map V.str)) (hy : ∀ y ∈ ys, y.length ≤ m) (hl : ys.length * (m + sep.length) ≤ n) (hn : n ≤ 100000) :
    EvP (tM1 (fun x xs H Q => ∃ a p, ∃ ys : List Str, x = .str a ∧ xs = [.ref p] ∧ (SqL K H p (ys.map V.str) ∨ SqT K H p (ys.map V.str)) ∧ (ys.map (·.length)).sum + ys.length * a.length ≤ 16777216 ∧ Q (.str (Txt.join a ys)) H) ta tb) σ H (StrLe n) := fun H1 e Q q =>
  ha H1 e _ fun H2 e2 => ⟨⟨sep, rfl⟩, hb H2 (e.trans e2) _ fun p H3 _ e3 h3 => by
    have hs : (ys.map (·.length)).sum ≤ m * ys.length := by
      have := sumLen_le_of_bound (fun x : Str => x) m ys hy
      simpa using this
    have e1 : ys.length * (m + sep.length) = m * ys.length + ys.length * sep.length := by rw [Nat.mul_add, Nat.mul_comm]
    refine ⟨sep, p, ys, rfl, rfl, .inl (sq_of h3), by omega, q _ H3 (e2.trans e3) ⟨_, rfl, ?_⟩⟩
    have := StrLaws.join_length_le sep ys
    show (Builtin.Str.glued sep ys).length ≤ n
    rw [StrLaws.glued_eq_join]
    omega⟩
theorem s_retP {R : V → Hp → Prop} {D : Ends} (h : EvP te σ H R) (k : ∀ u H1, Ex H H1 → R u H1 → D.rt u H1) : tRet te D σ H := h H (Ex.refl H) _ k
theorem s_asgP {i : Nat} {R : V → Hp → Prop} {D : Ends} (h : EvP te σ H R) (k : ∀ u H1, Ex H H1 → R u H1 → D.nx (σ.set i (some u)) H1) : tAsg te (gName i) D σ H := h H (Ex.refl H) _ k
theorem q_asgP {i : Nat} {tz : TS} {R : V → Hp → Prop} {D : Ends} (h : EvP te σ H R) (k : ∀ u H1, Ex H H1 → R u H1 → tz D (σ.set i (some u)) H1) : tSeq (tAsg te (gName i)) tz D σ H := s_asgP (D := { D with nx := tz D }) h k
theorem evp_if {tt : TT} {b : Bool} {R : V → Hp → Prop} (h : EvT tt σ H b) (h1 : b = true → EvP ta σ H R) (h2 : b = false → EvP tb σ H R) : EvP (tIf tt ta tb) σ H R := fun H1 e Q q => h H1 e _ fun H2 e2 => by
  cases b with
  | true => exact h1 rfl H2 (e.trans e2) Q fun u H3 e3 => q u H3 (e2.trans e3)
  | false => exact h2 rfl H2 (e.trans e2) Q fun u H3 e3 => q u H3 (e2.trans e3)
/-- .. where the list's texts are known by their lengths alone -/
def EvSL (te : TE) (σ : L2.St) (H : Hp) (n m : Nat) : Prop := ∀ H1, Ex H H1 → ∀ Q : VK, (∀ p H2 (ys : List Str), ys.length = n → (∀ y ∈ ys, y.length ≤ m) → H1 p = none → Ex H1 H2 → H2 p = some (.lst (ys.map V.str)) → Q (.ref p) H2) → te σ H1 Q
theorem evp_joinS {sep : Str} {n m k : Nat} (ha : Ev ta σ H (.str sep)) (hb : EvSL tb σ H k m) (hl : k * (m + sep.length) ≤ n) (hn : n ≤ 100000) :
    EvP (tM1 (fun x xs H Q => ∃ a p, ∃ ys : List Str, x = .str a ∧ xs = [.ref p] ∧ (SqL K H p (ys.map V.str) ∨ SqT K H p (ys.map V.str)) ∧ (ys.map (·.length)).sum + ys.length * a.length ≤ 16777216 ∧ Q (.str (Txt.join a ys)) H) ta tb) σ H (StrLe n) := fun H1 e Q q =>
  ha H1 e _ fun H2 e2 => ⟨⟨sep, rfl⟩, hb H2 (e.trans e2) _ fun p H3 ys hk hy _ e3 h3 => by
    have hs : (ys.map (·.length)).sum ≤ m * ys.length := by
      have := sumLen_le_of_bound (fun x : Str => x) m ys hy
      simpa using this
    have e1 : ys.length * (m + sep.length) = m * ys.length + ys.length * sep.length := by rw [Nat.mul_add, Nat.mul_comm]
    rw [← hk] at hl
    refine ⟨sep, p, ys, rfl, rfl, .inl (sq_of h3), by omega, q _ H3 (e2.trans e3) ⟨_, rfl, ?_⟩⟩
    have := StrLaws.join_length_le sep ys
    show (Builtin.Str.glued sep ys).length ≤ n
    rw [StrLaws.glued_eq_join]
    omega⟩
/-- a comprehension of texts over a tuple -/
theorem esl_lc {J : It} {n m : Nat} {G : Hp → Prop} {Y : Nat → Hp → V → Hp → Prop} {wi : TI} {g : TG} {vs : List Nat} (w : Walk J n G Y) (hn : n ≤ 40000)
    (hi : ∀ H1, Ex H H1 → ∀ R : It → Hp → Prop, (∀ H2, Ex H1 H2 → G H2 → R J H2) → wi σ H1 R) (hG : ∀ H1 H2, Ex H1 H2 → G H1 → G H2)
    (ht : ∀ (i : Nat) x H1 H2, Ex H H1 → i < n → G H1 → Y i H1 x H2 → Ex H1 H2 ∧ ∀ R : L2.St → Hp → Prop, (∀ σ2 H3, Ex H2 H3 → wipe σ2 vs = wipe σ vs → EvP te σ2 H3 (StrLe m) → R σ2 H3) → g x (wipe σ vs) H2 R) : EvSL (tLc wi g tYes te vs) σ H n m := fun H0 e Q q =>
  hi H0 e _ fun H1 e1 g1 Dl hD => lc_it w (fun i H2 => H1 Dl = none ∧ Ex H1 H2 ∧ ∃ ys : List Str, ys.length = i ∧ (∀ y ∈ ys, y.length ≤ m) ∧ H2 Dl = some (.lst (ys.map V.str))) ⟨hD, Ex.new hD, [], rfl, (fun _ h => nomatch h), upd_same⟩ (fun i H2 _ p => hG H1 H2 p.2.1 g1)
    (fun i x H2 H3 hi p y => by
      obtain ⟨p1, p2, ys, l1, l2, l3⟩ := p
      obtain ⟨e3, k⟩ := ht i x H2 H3 ((e.trans e1).trans p2) hi (hG H1 H2 p2 g1) y
      refine k _ fun σ2 H4 e4 hw h1 => ⟨hw, ?_⟩
      show te σ2 H4 _
      refine h1 H4 (Ex.refl H4) _ fun u H5 e5 r => ?_
      obtain ⟨z, rfl, hz⟩ := r
      refine ⟨ys.map V.str, e5 Dl _ (e4 Dl _ (e3 Dl _ l3)), sz_lt (by rw [List.length_map]; omega), p1, Ex.mut (((p2.trans e3).trans e4).trans e5) p1, ys ++ [z], by simp [l1], fun y hy => ?_, by rw [upd_same]; simp⟩
      rcases List.mem_append.mp hy with h | h
      · exact l2 y h
      · exact List.mem_singleton.mp h ▸ hz) fun H2 p => by
    obtain ⟨p1, p2, ys, l1, l2, l3⟩ := p
    exact q Dl H2 ys l1 l2 (fresh_back e1 p1) (e1.trans p2) l3
end
/-! ### f-strings -/
section
variable {K : PySem.W.Frag} {σ : L2.St} {H H' : Hp} {te ta tb : TE} {x y z v : V}
theorem ev_fmtS {y : Str} (h : Ev te σ H (.str y)) (hl : y.length ≤ 100000) : Ev (tFmt te) σ H (.str y) := fun H1 e Q q => h H1 e _ fun H2 e2 => .inl ⟨y, rfl, sz_of hl, q H2 e2⟩
theorem small_log {i : Int} (h : i.natAbs ≤ 1000) : i.natAbs.log2 < 1920 := by
  have : i.natAbs.log2 ≤ i.natAbs := Nat.log2_le_self _
  omega
theorem ev_fmtI {i : Int} (h : Ev te σ H (.int i)) (hl : i.natAbs ≤ 1000) : Ev (tFmt te) σ H (.str (toString i)) := fun H1 e Q q => h H1 e _ fun H2 e2 => .inr ⟨i, rfl, small_log hl, q H2 e2⟩
theorem ea_star {p : Addr} {xs ys : List V} {t : TA} (he : Ev te σ H (.ref p)) (hp : SqT K H p xs ∨ SqL K H p xs) (hr : EvA t σ H ys) : EvA (StX.tStar K te t) σ H (xs ++ ys) := fun H1 e Q q =>
  he H1 e _ fun H2 e2 => ⟨p, xs, rfl, hp.imp (ex_t (e.trans e2)) (ex_l (e.trans e2)), hr H2 (e.trans e2) _ fun H3 e3 => q H3 (e2.trans e3)⟩
def EvJ (ts : List TE) (acc : Str) (σ : L2.St) (H : Hp) (out : Str) : Prop := ∀ H1, Ex H H1 → ∀ Q : Str → Hp → Prop, (∀ H2, Ex H1 H2 → Q out H2) → tJs ts acc σ H1 Q
theorem evj_nil {acc : Str} : EvJ [] acc σ H acc := fun H1 _ Q q => q H1 (Ex.refl H1)
theorem evj_cons {ts : List TE} {acc y out : Str} (h : Ev te σ H (.str y)) (hl : (acc ++ y).length ≤ 100000) (r : EvJ ts (acc ++ y) σ H out) : EvJ (te :: ts) acc σ H out := fun H1 e Q q =>
  h H1 e _ fun H2 e2 => ⟨y, rfl, sz_of hl, r H2 (e.trans e2) Q fun H3 e3 => q H3 (e2.trans e3)⟩
theorem ev_joined {ts : List TE} {out : Str} (h : EvJ ts Str.empty σ H out) : Ev (fun σ H Q => tJs ts Str.empty σ H fun out H1 => Q (.str out) H1) σ H (.str out) := fun H1 e Q q => h H1 e _ fun H2 e2 => q H2 e2
theorem int_len {i : Int} (h0 : 0 ≤ i) (h1 : i < 100) : (toString i : Str).length ≤ 2 := toString_length_le h0 (by decide) h1
end
section
variable {P : Program} {w : World} {K : PySem.W.Frag} {mg : Str → Option Value} {base : Heap}
/-! ### row_text -/
theorem sc_row_text : FnScope ["name", "needed"] ["name", "needed"] (defScope s_row_text) := ⟨rfl, rfl, rfl, by decide +kernel, rfl, by decide +kernel, by decide +kernel⟩
def spRowText (K : PySem.W.Frag) : Sp := fun vs H Q _ => ∃ (r : Str) (p : Addr) (ns : List Str), vs = [.str r, .ref p] ∧ SqT K H p (ns.map V.str) ∧ IsName r ∧ (∀ s ∈ ns, IsName s) ∧ ns.length ≤ 12 ∧ RetP (StrLe 200) H Q
theorem ok_row_text (T : Tx K mg) : FnR P w K mg base CX0 1 (He.ga K "row_text") (spRowText K) := by
  refine fnr T.d_row_text sc_row_text (fun _ _ _ _ _ _ us hl => match us, hl with | [_, _], _ => rfl) (fun vs H Q E h => ?_) (fun cdv A outer s H vs Q E hr h => ?_)
  · obtain ⟨r, p, ns, rfl, _⟩ := h
    rfl
  · obtain ⟨r, p, ns, rfl, hp, hr1, hns, hl, k⟩ := h
    refine ⟨_, pss_one (ps_ret (pe_ifExp (pt_cmpR (op_neD hr.units) (pv 1) (pe_tup pa_nil) (nomark _))
      (pe_join pe_str (pe_lst (pa_cons (pe_joined (.cons (pe_fmt (pv 0)) (.cons pe_str .nil))) (StX.pa_star (pv 1) pa_nil)))) (pv 0))), ?_⟩
    refine s_retP (R := StrLe 200) (evp_if (b := !(ns.map PyData.str).isEmpty) (et_test (ev_ne0 (ev_dat (ev_var rfl) (.tup hp (dpAll_S ns))) (shaped_S fun x hx => nm_ok (hns x hx)))) (fun _ => ?_) fun _ => ?_) fun u H1 e => k u H1 e
    · have hr2 : (Str.empty ++ r).length ≤ 8 := by
        rw [PySem.Str.length_append]; show 0 + r.length ≤ 8; have := hr1.2.1; omega
      have hr3 : (Str.empty ++ r ++ (":" : Str)).length ≤ 9 := by
        rw [PySem.Str.length_append]; show _ + 1 ≤ 9; omega
      refine evp_join (ys := (Str.empty ++ r ++ (":" : Str)) :: ns) (m := 9) ev_c (el_lst ?_ ?_) ?_ ?_ (by decide)
      · have ej : Ev (fun σ H Q => tJs [tFmt (tVar 0), tC (.str (":" : Str))] Str.empty σ H fun out H1 => Q (.str out) H1) [some (.str r), some (.ref p)] H (.str (Str.empty ++ r ++ (":" : Str))) :=
          ev_joined (evj_cons (ev_fmtS (ev_var rfl) (Nat.le_trans hr1.2.1 (by decide))) (Nat.le_trans hr2 (by decide)) (evj_cons ev_c (Nat.le_trans hr3 (by decide)) evj_nil))
        have es := ea_cons ej (ea_star (K := K) (σ := [some (.str r), some (.ref p)]) (H := H) (te := tVar 1) (ev_var rfl) (.inl hp) ea_nil)
        rw [List.append_nil] at es
        exact es
      · rw [List.length_map, List.length_cons]; omega
      · intro y hy
        rcases List.mem_cons.mp hy with h | h
        · rw [h]; exact hr3
        · exact Nat.le_trans (hns y h).2.1 (by decide)
      · rw [List.length_cons]
        show (ns.length + 1) * (9 + 1) ≤ 200
        omega
    · exact fun H1 e Q q => ⟨.str r, rfl, q _ H1 (Ex.refl _) ⟨r, rfl, Nat.le_trans hr1.2.1 (by decide)⟩⟩
/-! ### copies_text -/
theorem sc_copies_text : FnScope ["copies", "name", "number"] ["copies"] (defScope s_copies_text) := ⟨rfl, rfl, rfl, by decide +kernel, rfl, by decide +kernel, by decide +kernel⟩
/-- a tuple of copies -/
structure CpsAt (K : PySem.W.Frag) (H : Hp) (p : Addr) (cs : List (Str × Int)) : Prop where
  ex_ : ∃ ad : Nat → Addr, SqT K H p ((List.range cs.length).map fun i => .ref (ad i)) ∧ ∀ i c, cs[i]? = some c → H (ad i) = some (.tup [.str c.1, .int c.2])
theorem CpsAt.ex {p : Addr} {cs : List (Str × Int)} {H H' : Hp} (h : CpsAt K H p cs) (e : Ex H H') : CpsAt K H' p cs := by
  obtain ⟨ad, h1, h2⟩ := h.ex_
  exact ⟨ad, ex_t e h1, fun i c hc => e _ _ (h2 i c hc)⟩
theorem dp_cp {H : Hp} {a : Addr} {c : Str × Int} (h : H a = some (.tup [.str c.1, .int c.2])) : Dp K H (.ref a) (cpD c) := .tup (st_of h) (.cons (.str _) (.cons (.int _) .nil))
theorem map_range {α β : Type} (cs : List α) (f : Nat → β) (g : α → PyData) (R : β → PyData → Prop) : True := trivial
theorem dpAll_range {H : Hp} {α : Type} (g : α → PyData) : ∀ (cs : List α) (f : Nat → V), (∀ i c, cs[i]? = some c → Dp K H (f i) (g c)) → DpAll K H ((List.range cs.length).map f) (cs.map g)
  | [], _, _ => .nil
  | c :: cs, f, h => by
    rw [List.length_cons, List.range_succ_eq_map, List.map_cons, List.map_map, List.map_cons]
    exact .cons (h 0 c rfl) (dpAll_range g cs (f ∘ Nat.succ) fun i c' hc => h (i + 1) c' (by simpa using hc))
theorem CpsAt.dp {p : Addr} {cs : List (Str × Int)} {H : Hp} (h : CpsAt K H p cs) : Dp K H (.ref p) (.tuple (cs.map cpD)) := by
  obtain ⟨ad, h1, h2⟩ := h.ex_
  exact .tup h1 (dpAll_range cpD cs _ fun i c hc => dp_cp (h2 i c hc))
def spCopiesText (K : PySem.W.Frag) : Sp := fun vs H Q _ => ∃ (p : Addr) (cs : List (Str × Int)), vs = [.ref p] ∧ CpsAt K H p cs ∧ (∀ c ∈ cs, IsName c.1 ∧ 1 ≤ c.2 ∧ c.2 ≤ 60) ∧ cs.length ≤ 120 ∧ RetP (StrLe 10000) H Q
theorem ok_copies_text (T : Tx K mg) : FnR P w K mg base CX0 1 (He.ga K "copies_text") (spCopiesText K) := by
  obtain ⟨t1, g1⟩ := T.t_NOTHING
  refine fnr T.d_copies_text sc_copies_text (fun _ _ _ _ _ _ us hl => match us, hl with | [_], _ => rfl) (fun vs H Q E h => ?_) (fun cdv A outer s H vs Q E hr h => ?_)
  · obtain ⟨p, cs, rfl, _⟩ := h
    rfl
  · obtain ⟨p, cs, rfl, hp, hcs, hl, k⟩ := h
    refine ⟨_, pss_one (ps_ret (pe_ifExp (pt_cmpR (op_neD hr.units) (pv 0) (pe_tup pa_nil) (nomark _))
      (pe_join pe_str (pe_lc (own := [("name", 1), ("number", 2)]) (g := gTup K 2 (gCons (gName 1) (gCons (gName 2) gNil))) (by rfl) sc_copies_text.nd (pi_tup (pv 0)) (blkOk_by (own := [("name", 1), ("number", 2)]) (N := ["copies", "name", "number"]) (sc := defScope s_copies_text) (by decide +kernel))
        (fun _ _ _ _ _ => pg_tup (n := 2) (by rfl) (pgs_cons (pg_name (i := 1) sc_copies_text.nd rfl (Or.inl rfl)) (pgs_cons (pg_name (i := 2) sc_copies_text.nd rfl (Or.inl rfl)) pgs_nil))) (fun _ _ _ _ _ => pts_nil)
        (fun _ _ _ _ _ => pe_joined (.cons (pe_fmt (pv 1)) (.cons pe_str (.cons (pe_fmt (pv 2)) .nil))))))
      (pe_glob (v := .str "-") (by rfl) g1 ⟨_, rfl⟩))), ?_⟩
    refine s_retP (R := StrLe 10000) (evp_if (b := !(cs.map cpD).isEmpty) (et_test (ev_ne0 (ev_dat (ev_var rfl) hp.dp) (shaped_C fun x hx => nm_ok (hcs x hx).1))) (fun _ => ?_) fun _ => ?_) fun u H1 e => k u H1 e
    · obtain ⟨ad, h1, h2⟩ := hp.ex_
      refine evp_joinS (n := 10000) (m := 30) (k := cs.length) ev_c ?_ ?_ (by decide)
      · have w := walk_tup (K := K) (a := p) (xs := (List.range cs.length).map fun i => V.ref (ad i))
        rw [List.length_map, List.length_range] at w
        refine esl_lc w (by omega) (fun H1 e R k' => ?_) (fun H1 H2 e h => ex_t e h) (fun i x H1 H2 e hi _ y => ?_)
        · exact ⟨.ref p, rfl, p, rfl, ⟨_, ex_t e h1⟩, k' H1 (Ex.refl _) (ex_t e h1)⟩
        · obtain ⟨rfl, hx⟩ := y
          have hx' : x = .ref (ad i) := by
            rw [List.getElem?_map, List.getElem?_range hi] at hx
            exact (Option.some.inj hx).symm
          subst hx'
          obtain ⟨c, hc⟩ : ∃ c, cs[i]? = some c := ⟨cs[i], List.getElem?_eq_getElem hi⟩
          obtain ⟨c1, c2, c3⟩ := hcs c (List.mem_of_getElem? hc)
          refine ⟨Ex.refl _, fun R k' => ⟨ad i, [.str c.1, .int c.2], rfl, st_of (e _ _ (h2 i c hc)), rfl, .str c.1, [.int c.2], rfl, .int c.2, [], rfl, rfl, k' _ _ (Ex.refl _) rfl ?_⟩⟩
          intro H3 e3 Q q
          have l2 := int_len (i := c.2) (by omega) (by omega)
          have l1 := c1.2.1
          have a1 : (Str.empty ++ c.1).length ≤ 8 := by rw [PySem.Str.length_append]; show 0 + c.1.length ≤ 8; omega
          have a2 : (Str.empty ++ c.1 ++ ("*" : Str)).length ≤ 9 := by rw [PySem.Str.length_append]; show _ + 1 ≤ 9; omega
          have a3 : (Str.empty ++ c.1 ++ ("*" : Str) ++ (toString c.2 : Str)).length ≤ 11 := by rw [PySem.Str.length_append]; omega
          have ej : Ev (fun σ H Q => tJs [tFmt (tVar 1), tC (.str ("*" : Str)), tFmt (tVar 2)] Str.empty σ H fun out H1 => Q (.str out) H1) [some (.ref p), some (.str c.1), some (.int c.2)] H2 (.str (Str.empty ++ c.1 ++ ("*" : Str) ++ (toString c.2 : Str))) :=
            ev_joined (evj_cons (ev_fmtS (ev_var rfl) (by omega)) (Nat.le_trans a1 (by decide)) (evj_cons ev_c (Nat.le_trans a2 (by decide)) (evj_cons (ev_fmtI (ev_var rfl) (by omega)) (Nat.le_trans a3 (by decide)) evj_nil)))
          exact ej H3 e3 _ fun H4 e4 => q _ H4 e4 ⟨_, rfl, Nat.le_trans a3 (by decide)⟩
      · show cs.length * (30 + 1) ≤ 10000
        omega
    · exact fun H1 e Q q => q _ H1 (Ex.refl _) ⟨_, rfl, by decide⟩
/-! ### sheet_text -/
theorem sc_sheet_text : FnScope ["sheet", "needs", "name"] ["sheet"] (defScope s_sheet_text) := ⟨rfl, rfl, rfl, by decide +kernel, rfl, by decide +kernel, by decide +kernel⟩
def spSheetText (K : PySem.W.Frag) : Sp := fun vs H Q _ => ∃ (a dx : Addr) (fs : List (Str × V)) (rows : List Str) (nd : Str → List Str) (n d : Addr) (ad : Str → Addr), vs = [.ref a] ∧ H a = some (.ins (cS K) dx fs) ∧ ShPart H fs rows nd n d ad ∧ Sht rows nd ∧ RetP (StrLe 10000) H Q
theorem ok_sheet_text (T : Tx K mg) : FnR P w K mg base CX0 3 (He.ga K "sheet_text") (spSheetText K) := by
  have G1 := ok_Sheet_needs (P := P) (w := w) (base := base) T
  have G2 := ok_Sheet_rows (P := P) (w := w) (base := base) T
  have G3 := ok_row_text (P := P) (w := w) (base := base) T
  obtain ⟨fd1, D1⟩ := T.d_row_text
  refine fnr T.d_sheet_text sc_sheet_text (fun _ _ _ _ _ _ us hl => match us, hl with | [_], _ => rfl) (fun vs H Q E h => ?_) (fun cdv A outer s H vs Q E hr h => ?_)
  · obtain ⟨a, dx, fs, rows, nd, n, d, ad, rfl, _⟩ := h
    rfl
  · obtain ⟨a, dx, fs, rows, nd, n, d, ad, rfl, h1, S, D, k⟩ := h
    have hu := hu_of hr
    refine ⟨_, pss_cons (ps_asg (pe_get (E := E0) (pv 0) T.c_Sheet T.p_Sheet_needs G1 hr) (pg_name (i := 1) sc_sheet_text.nd rfl (Or.inr rfl)))
      (pss_one (ps_ret (pe_join pe_str (pe_lc (own := [("name", 2)]) (g := gName 2) (by rfl) sc_sheet_text.nd (pi_tup (pe_get (E := E0) (pv 0) T.c_Sheet T.p_Sheet_rows G2 hr)) (blkOk_by (own := [("name", 2)]) (N := ["sheet", "needs", "name"]) (sc := defScope s_sheet_text) (by decide +kernel))
        (fun _ _ _ _ _ => pg_name (i := 2) sc_sheet_text.nd rfl (Or.inl rfl)) (fun _ _ _ _ _ => pts_nil) (fun _ _ _ _ _ => pe_fn G3 (hr.mono (by decide)) (by rfl) T.g_row_text D1.kp pass0 (pa_cons (pv 2) (pa_cons (pe_dget hu (pv 1) (pv 2) (fun _ _ => rfl)) pa_nil))))))), ?_⟩
    have ev1 := evp_get (C := cS K) (E := E0) (σ := [some (.ref a), none, none]) (H := H) (ta := tVar 0) (sp := spNeeds K) (R := fun v H2 => ∃ q, v = .ref q ∧ H q = none ∧ H2 q = some (.dK (dO rows fun r => .ref (ad r)))) (ev_var rfl) h1 fun H1 e Q k => ⟨a, dx, fs, d, _, rfl, e _ _ h1, S.ld, e _ _ S.hd, fun p H2 hp e2 h2 => k _ _ e2 ⟨p, rfl, fresh_back e hp, h2⟩⟩
    refine q_asgP ev1 fun v H1 e1 r => ?_
    obtain ⟨q, rfl, hq0, hq⟩ := r
    have S1 := S.ex e1
    refine s_retP (D := { nx := fun _ H' => Q .non H', rt := Q }) (R := StrLe 10000) ?_ fun u H2 e2 r2 => k u H2 (e1.trans e2) r2
    refine evp_joinS (n := 10000) (m := 200) (k := rows.length) ev_c ?_ ?_ (by decide)
    · have w := walk_tup (K := K) (a := n) (xs := rows.map V.str)
      rw [List.length_map] at w
      refine esl_lc w (by have := D.len; omega) (fun H2 e R k' => ?_) (fun H2 H3 e h => ex_t e h) (fun i x H2 H3 e hi _ y => ?_)
      · have ev2 := ev_get (C := cS K) (E := E0) (σ := [some (.ref a), some (.ref q), none]) (H := H1) (ta := tVar 0) (sp := spRows K) (u := .ref n) (ev_var rfl) (e1 _ _ h1) fun H2 e Q k => ⟨a, dx, fs, _, rfl, e _ _ (e1 _ _ h1), S.ln, k⟩
        exact ev2 H2 e _ fun H3 e3 => ⟨n, rfl, ⟨_, st_of (e3 _ _ (e _ _ S1.hn))⟩, k' H3 e3 (st_of (e3 _ _ (e _ _ S1.hn)))⟩
      · obtain ⟨rfl, hx⟩ := y
        obtain ⟨r, hr, rfl⟩ := map_str_at hx
        have hm : r ∈ rows := List.mem_of_getElem? hr
        refine ⟨Ex.refl _, fun R k' => k' _ _ (Ex.refl _) rfl ?_⟩
        refine evp_fn (vs := [.str r, .ref (ad r)]) (ea_cons (ev_var rfl) (ea_cons (ev_dget (ev_var rfl) (ev_var rfl) (.inl (e _ _ hq)) hm) ea_nil)) fun H4 e4 Q k => ?_
        exact ⟨r, ad r, nd r, rfl, st_of (e4 _ _ (e _ _ (S1.ha r hm))), D.nam r hm, fun s hs => D.nam s (D.sub r hm s hs), D.ndlen hm, k⟩
    · have := D.len
      show rows.length * (200 + 1) ≤ 10000
      omega
end
end K29
set_option Elab.async false
set_option linter.all false
set_option maxRecDepth 100000
set_option maxHeartbeats 4000000
/-! place_in, is_bar, is_copy, need_copies. -/
namespace K29
open PySem PySem.Spec PyProof.Rows L2 Evl
section
variable {X : Cx}
/-- t[i], i a number written down -/
theorem pe_t {a : Expr} {ta : TE} {i : Int} {j : Nat} {p2 pos : Pos} (ha : PE X a ta) : PE X (.Subscript a (.Constant (.int i) j p2) pos) (tOp (rIxT X.K) ta (tC (.int i))) := pe_ix ix_tup ha pe_int fun _ _ => rfl
theorem pe_l {a : Expr} {ta : TE} {i : Int} {j : Nat} {p2 pos : Pos} (ha : PE X a ta) : PE X (.Subscript a (.Constant (.int i) j p2) pos) (tOp (rIxL X.K) ta (tC (.int i))) := pe_ix ix_list ha pe_int fun _ _ => rfl
/-- a statement that is never reached -/
theorem ps_dead {st : Stmt} : PS X st (fun _ _ _ => False) := ⟨fun _ _ _ _ _ _ h => h.elim⟩
theorem pss_dead {st : List Stmt} : PSs X st (fun _ _ _ => False) := ⟨fun _ _ _ _ _ _ h => h.elim⟩
end
section
variable {K : PySem.W.Frag} {σ : L2.St} {H H' : Hp} {te ta tb : TE} {x y z v : V} {g : TG} {tu tz : TS} {D : Ends}
/-- a for over any walk -/
theorem s_forW {J : It} {n : Nat} {G : Hp → Prop} {Y : Nat → Hp → V → Hp → Prop} {wi : TI} (w : Walk J n G Y) (Pv : Nat → L2.St → Hp → Prop) (hi : ∀ R : It → Hp → Prop, (∀ H2, Ex H H2 → Pv 0 σ H2 → R J H2) → wi σ H R) (hG : ∀ i σ H, i ≤ n → Pv i σ H → G H)
    (hs : ∀ i x σ H H', i < n → Pv i σ H → Y i H x H' → g x σ H' fun σ2 H2 => tu { D with nx := Pv (i + 1), ct := Pv (i + 1), bk := D.nx } σ2 H2) (hd : ∀ σ H, Pv n σ H → D.nx σ H) : tFor wi g tu D σ H :=
  hi _ fun H2 _ p => for_it w Pv p hG hs hd
theorem q_forW {J : It} {n : Nat} {G : Hp → Prop} {Y : Nat → Hp → V → Hp → Prop} {wi : TI} (w : Walk J n G Y) (Pv : Nat → L2.St → Hp → Prop) (hi : ∀ R : It → Hp → Prop, (∀ H2, Ex H H2 → Pv 0 σ H2 → R J H2) → wi σ H R) (hG : ∀ i σ H, i ≤ n → Pv i σ H → G H)
    (hs : ∀ i x σ H H', i < n → Pv i σ H → Y i H x H' → g x σ H' fun σ2 H2 => tu { D with nx := Pv (i + 1), ct := Pv (i + 1), bk := tz D } σ2 H2) (hd : ∀ σ H, Pv n σ H → tz D σ H) : tSeq (tFor wi g tu) tz D σ H :=
  s_forW (D := { D with nx := tz D }) w Pv hi hG hs hd
theorem s_forWn {J : It} {n j : Nat} {G : Hp → Prop} {Y : Nat → Hp → V → Hp → Prop} {wi : TI} (w : Walk J n G Y) (Pv : Nat → L2.St → Hp → Prop) (hi : ∀ R : It → Hp → Prop, (∀ H2, Ex H H2 → Pv 0 σ H2 → R J H2) → wi σ H R) (hG : ∀ i σ H, i ≤ n → Pv i σ H → G H)
    (hs : ∀ i x σ H H', i < n → Pv i σ H → Y i H x H' → tu { D with nx := Pv (i + 1), ct := Pv (i + 1), bk := D.nx } (σ.set j (some x)) H') (hd : ∀ σ H, Pv n σ H → D.nx σ H) : tFor wi (gName j) tu D σ H := s_forW w Pv hi hG hs hd
theorem q_forWn {J : It} {n j : Nat} {G : Hp → Prop} {Y : Nat → Hp → V → Hp → Prop} {wi : TI} (w : Walk J n G Y) (Pv : Nat → L2.St → Hp → Prop) (hi : ∀ R : It → Hp → Prop, (∀ H2, Ex H H2 → Pv 0 σ H2 → R J H2) → wi σ H R) (hG : ∀ i σ H, i ≤ n → Pv i σ H → G H)
    (hs : ∀ i x σ H H', i < n → Pv i σ H → Y i H x H' → tu { D with nx := Pv (i + 1), ct := Pv (i + 1), bk := tz D } (σ.set j (some x)) H') (hd : ∀ σ H, Pv n σ H → tz D σ H) : tSeq (tFor wi (gName j) tu) tz D σ H := q_forW w Pv hi hG hs hd
/-- an item of a tuple -/
theorem ev_ixT {p : Addr} {xs : List V} {i : Nat} (ha : Ev ta σ H (.ref p)) (hp : SqT K H p xs) (hx : xs[i]? = some v) : Ev (tOp (rIxT K) ta (tC (.int (i : Int)))) σ H v := ev_op ha ev_c (rv_ixT hp (at_of rfl hx))
theorem ev_ixL {p : Addr} {xs : List V} {i : Nat} (ha : Ev ta σ H (.ref p)) (hp : SqL K H p xs) (hx : xs[i]? = some v) : Ev (tOp (rIxL K) ta (tC (.int (i : Int)))) σ H v := ev_op ha ev_c (rv_ixL hp (at_of rfl hx))
theorem ev_ne (ha : Ev ta σ H x) (hb : Ev tb σ H y) (h : scal x y = true) : Ev (tOp rNe ta tb) σ H (.bl (!decide (x = y))) := ev_op ha hb (rv_ne h)
theorem ev_eq (ha : Ev ta σ H x) (hb : Ev tb σ H y) (h : scal x y = true) : Ev (tOp rEq ta tb) σ H (.bl (decide (x = y))) := ev_op ha hb (rv_eq h)
def PairR (i j : Int) : V → Hp → Prop := fun v H2 => ∃ q, v = .ref q ∧ H2 q = some (.tup [.int i, .int j])
theorem ev_gtP {i j k l : Int} (ha : EvP ta σ H (PairR i j)) (hb : EvP tb σ H (PairR k l)) : Ev (tOp (rGtP K) ta tb) σ H (.bl (if i = k then decide (l < j) else decide (k < i))) := fun H1 e Q q =>
  ha H1 e _ fun x H2 e2 r2 => hb H2 (e.trans e2) _ fun y H3 e3 r3 => by
    obtain ⟨a, rfl, h2⟩ := r2
    obtain ⟨b, rfl, h3⟩ := r3
    exact ⟨a, b, i, j, k, l, rfl, rfl, e3 _ _ h2, h3, q H3 (e2.trans e3)⟩
/-- a, b = t -/
theorem q_asg2 {i j : Nat} {p : Addr} {a b : V} (h : Ev te σ H (.ref p)) (hp : SqT K H p [a, b]) (k : ∀ H1, Ex H H1 → tz D ((σ.set i (some a)).set j (some b)) H1) : tSeq (tAsg te (gTup K 2 (gCons (gName i) (gCons (gName j) gNil)))) tz D σ H :=
  h H (Ex.refl H) _ fun H1 e => ⟨p, [a, b], rfl, ex_t e hp, rfl, a, [b], rfl, b, [], rfl, rfl, k H1 e⟩
end
section
variable {P : Program} {w : World} {K : PySem.W.Frag} {mg : Str → Option Value} {base : Heap}
/-! ### place_in -/
theorem sc_place_in : FnScope ["order", "copy", "name", "number"] ["order", "copy"] (defScope s_place_in) := ⟨rfl, rfl, rfl, by decide +kernel, rfl, by decide +kernel, by decide +kernel⟩
/-- a copy at p -/
def CpAt (H : Hp) (p : Addr) (c : Str × Int) : Prop := H p = some (.tup [.str c.1, .int c.2])
/-- the order's dict -/
def OrdAt (H : Hp) (o : Addr) (rows : List Str) : Prop := H o = some (.dK (dO rows fun r => .int (ix rows r)))
def spPlace : Sp := fun vs H Q _ => ∃ (o p : Addr) (rows : List Str) (c : Str × Int), vs = [.ref o, .ref p] ∧ OrdAt H o rows ∧ CpAt H p c ∧ c.1 ∈ rows ∧ RetP (PairR c.2 (ix rows c.1)) H Q
theorem evp_U {te : TE} {σ : L2.St} {H : Hp} {xs : List V} (h : EvU te σ H xs) : EvP te σ H (fun v H2 => ∃ q, v = .ref q ∧ H2 q = some (.tup xs)) := fun H1 e Q k => h H1 e Q fun p H2 _ e2 h2 => k _ _ e2 ⟨p, rfl, h2⟩
theorem ok_place_in (T : Tx K mg) : FnR P w K mg base CX0 1 (He.ga K "place_in") spPlace := by
  refine fnr T.d_place_in sc_place_in (fun _ _ _ _ _ _ us hl => match us, hl with | [_, _], _ => rfl) (fun vs H Q E h => ?_) (fun cdv A outer s H vs Q E hr h => ?_)
  · obtain ⟨o, p, rows, c, rfl, _⟩ := h
    rfl
  · obtain ⟨o, p, rows, c, rfl, ho, hp, hm, k⟩ := h
    have hu := hu_of hr
    refine ⟨_, pss_cons (ps_asg (pv 1) (pg_tup (n := 2) rfl (pgs_cons (pg_name (i := 2) sc_place_in.nd rfl (Or.inl rfl)) (pgs_cons (pg_name (i := 3) sc_place_in.nd rfl (Or.inl rfl)) pgs_nil))))
      (pss_one (ps_ret (pe_tup (pa_cons (pv 3) (pa_cons (pe_dget hu (pv 0) (pv 2) (fun _ _ => rfl)) pa_nil))))), ?_⟩
    refine q_asg2 (ev_var rfl) (st_of hp) fun H1 e => ?_
    refine s_retP (D := { nx := fun _ H' => Q .non H', rt := Q }) (evp_U (eu_tup (ea_cons (ev_var rfl) (ea_cons (ev_dget (ev_var rfl) (ev_var rfl) (.inl (e _ _ ho)) hm) ea_nil)) (by show 2 ≤ 100000; decide))) fun u H2 e2 r => k u H2 (e.trans e2) r
/-! ### is_bar -/
/-- a copy bars another one -/
def barB (rows : List Str) (bl : Str → List Str) (c d : Str × Int) : Bool := (decide (c.1 = d.1) || decide (c.1 ∈ bl d.1)) && (if c.2 = d.2 then decide (ix rows d.1 < ix rows c.1) else decide (d.2 < c.2))
/-- a dict from each of ks to a dict of keys -/
structure BlAt (H : Hp) (d : Addr) (ks : List Str) (bl : Str → List Str) : Prop where
  ex_ : ∃ ad : Str → Addr, H d = some (.dK (dO ks fun r => .ref (ad r))) ∧ ∀ r ∈ ks, H (ad r) = some (.dK (dO (bl r) fun _ => .bl true))
theorem BlAt.ex {H H' : Hp} {d : Addr} {ks : List Str} {bl : Str → List Str} (B : BlAt H d ks bl) (e : Ex H H') : BlAt H' d ks bl := by
  obtain ⟨ad, h1, h2⟩ := B.ex_
  exact ⟨ad, e _ _ h1, fun r hr => e _ _ (h2 r hr)⟩
theorem sc_is_bar : FnScope ["order", "below", "one", "other"] ["order", "below", "one", "other"] (defScope s_is_bar) := ⟨rfl, rfl, rfl, by decide +kernel, rfl, by decide +kernel, by decide +kernel⟩
def spIsBar : Sp := fun vs H Q _ => ∃ (o b p q : Addr) (rows ks : List Str) (bl : Str → List Str) (c d : Str × Int), vs = [.ref o, .ref b, .ref p, .ref q] ∧ OrdAt H o rows ∧ BlAt H b ks bl ∧ CpAt H p c ∧ CpAt H q d ∧ c.1 ∈ rows ∧ d.1 ∈ rows ∧ d.1 ∈ ks ∧ RetV (.bl (barB rows bl c d)) H Q
theorem ok_is_bar (T : Tx K mg) : FnR P w K mg base CX0 2 (He.ga K "is_bar") spIsBar := by
  have G := ok_place_in (P := P) (w := w) (base := base) T
  obtain ⟨fd, D⟩ := T.d_place_in
  refine fnr T.d_is_bar sc_is_bar (fun _ _ _ _ _ _ us hl => match us, hl with | [_, _, _, _], _ => rfl) (fun vs H Q E h => ?_) (fun cdv A outer s H vs Q E hr h => ?_)
  · obtain ⟨o, b, p, q, rows, ks, bl, c, d, rfl, _⟩ := h
    rfl
  · obtain ⟨o, b, p, q, rows, ks, bl, c, d, rfl, ho, hb, hp, hq, hc, hd, hk, k⟩ := h
    have hu := hu_of hr
    refine ⟨_, pss_cons (ps_if (PW.pt (pw_and (pt_cmpR op_ne (pe_t (pv 2)) (pe_t (pv 3)) (nomark _))
        (pw_and1 (pt_cmp (pc_dnotin hu (pe_t (pv 2)) (pe_dget hu (pv 1) (pe_t (pv 3)) (fun _ _ => rfl))) rfl)))) (pss_one (ps_ret pe_bl)) pss_nil)
      (pss_one (ps_ret (pe_cmpR (op_gtP hr.units0) (pe_fn G hr (by rfl) T.g_place_in D.kp pass0 (pa_cons (pv 0) (pa_cons (pv 2) pa_nil))) (pe_fn G hr (by rfl) T.g_place_in D.kp pass0 (pa_cons (pv 0) (pa_cons (pv 3) pa_nil))) (nomark _)))), ?_⟩
    obtain ⟨ad, hb1, hb2⟩ := hb.ex_
    have i1 : Ev (tOp (rIxT K) (tVar 2) (tC (.int 0))) [some (V.ref o), some (V.ref b), some (V.ref p), some (V.ref q)] H (.str c.1) := ev_ixT (i := 0) (ev_var rfl) (st_of hp) rfl
    have i2 : Ev (tOp (rIxT K) (tVar 3) (tC (.int 0))) [some (V.ref o), some (V.ref b), some (V.ref p), some (V.ref q)] H (.str d.1) := ev_ixT (i := 0) (ev_var rfl) (st_of hq) rfl
    refine q_when (b := !(decide (V.str c.1 = V.str d.1)) && !decide (c.1 ∈ bl d.1)) (et_and (et_test (ev_ne i1 i2 rfl)) fun _ => et_B (ev_dnin i1 (ev_dget (ev_var rfl) i2 (.inl hb1) hk) (.inl (hb2 _ hk)))) (fun hb H1 e1 => ?_) (fun hb H1 e1 => ?_)
    · obtain ⟨g1, g2⟩ := Bool.and_eq_true_iff.mp hb
      have g1' : ¬ c.1 = d.1 := fun e => by rw [e] at g1; simp at g1
      have g2' : ¬ c.1 ∈ bl d.1 := fun e => by rw [decide_eq_true e] at g2; cases g2
      refine s_ret (v := .bl false) ev_c fun H2 e2 => ?_
      have eb : barB rows bl c d = false := by
        unfold barB
        rw [decide_eq_false g1', decide_eq_false g2']
        rfl
      rw [eb] at k
      exact k.go (e1.trans e2)
    · have ho1 : OrdAt H1 o rows := e1 _ _ ho
      have p1 : EvP (tFn spPlace E0 (tCons (tVar 0) (tCons (tVar 2) tNil))) [some (V.ref o), some (V.ref b), some (V.ref p), some (V.ref q)] H1 (PairR c.2 (ix rows c.1)) :=
        evp_fn (vs := [.ref o, .ref p]) (ea_cons (ev_var rfl) (ea_cons (ev_var rfl) ea_nil)) fun H2 e Q k => ⟨o, p, rows, c, rfl, e _ _ ho1, e _ _ (e1 _ _ hp), hc, k⟩
      have p2 : EvP (tFn spPlace E0 (tCons (tVar 0) (tCons (tVar 3) tNil))) [some (V.ref o), some (V.ref b), some (V.ref p), some (V.ref q)] H1 (PairR d.2 (ix rows d.1)) :=
        evp_fn (vs := [.ref o, .ref q]) (ea_cons (ev_var rfl) (ea_cons (ev_var rfl) ea_nil)) fun H2 e Q k => ⟨o, q, rows, d, rfl, e _ _ ho1, e _ _ (e1 _ _ hq), hd, k⟩
      refine s_ret (ev_is (ev_gtP p1 p2) (w := .bl (barB rows bl c d)) ?_) fun H2 e2 => k.go (e1.trans e2)
      have eb : (decide (c.1 = d.1) || decide (c.1 ∈ bl d.1)) = true := by
        by_cases g1 : c.1 = d.1
        · rw [decide_eq_true g1]; rfl
        · by_cases g2 : c.1 ∈ bl d.1
          · rw [decide_eq_true g2, Bool.or_true]
          · exfalso
            have g3 : ¬ V.str c.1 = V.str d.1 := fun e => g1 (by injection e)
            rw [decide_eq_false g3, decide_eq_false g2] at hb
            cases hb
      unfold barB
      rw [eb, Bool.true_and]
      congr 1
      by_cases z : c.2 = d.2
      · rw [if_pos z, if_pos z]
        exact decide_eq_decide.mpr (by omega)
      · rw [if_neg z, if_neg z]
/-! ### is_copy -/
theorem sc_is_copy : FnScope ["sheet", "passes", "value"] ["sheet", "passes", "value"] (defScope s_is_copy) := ⟨rfl, rfl, rfl, by decide +kernel, rfl, by decide +kernel, by decide +kernel⟩
def spIsCopy (K : PySem.W.Frag) : Sp := fun vs H Q _ => ∃ (a p : Addr) (k : Int) (rows : List Str) (nd : Str → List Str) (c : Str × Int), vs = [.ref a, .int k, .ref p] ∧ ShAt (cS K) H a rows nd ∧ CpAt H p c ∧ c.1 ∈ rows ∧ 1 ≤ c.2 ∧ c.2 ≤ k ∧ RetV (.bl true) H Q
theorem ok_is_copy (T : Tx K mg) : FnR P w K mg base CX0 3 (He.ga K "is_copy") (spIsCopy K) := by
  have G1 := ok_is_between (P := P) (w := w) (base := base) T
  have G2 := ok_Sheet_contains (P := P) (w := w) (base := base) T
  obtain ⟨fd, D⟩ := T.d_is_between
  refine fnr T.d_is_copy sc_is_copy (fun _ _ _ _ _ _ us hl => match us, hl with | [_, _, _], _ => rfl) (fun vs H Q E h => ?_) (fun cdv A outer s H vs Q E hr h => ?_)
  · obtain ⟨a, p, k, rows, nd, c, rfl, _⟩ := h
    rfl
  · obtain ⟨a, p, kk, rows, nd, c, rfl, S, hp, hm, c1, c2, k⟩ := h
    refine ⟨_, pss_cons (ps_if (PW.pt (pw_or (pt_not (pt_val (pe_callB call_isi (by rfl) T.f_isinstance bi_isinstance (pa_cons (pv 2) (pa_cons (pe_bltn (by rfl) T.f_tuple cs_tuple (v := .ty "tuple") rfl) pa_nil)))))
        (pw_or (pt_cmpR op_ne (pe_callB call_len_seq (by rfl) T.f_len PySem.boot_len (pa_cons (pv 2) pa_nil)) pe_int (nomark _))
        (pw_or1 (pt_not (pt_val (pe_callB call_isi (by rfl) T.f_isinstance bi_isinstance (pa_cons (pe_t (pv 2)) (pa_cons (pe_bltn (by rfl) T.f_str cs_str (v := .ty "str") rfl) pa_nil))))))))) (pss_one (ps_ret pe_bl)) pss_nil)
      (pss_one (ps_ret (pe_and (pe_cmpR (op_inO (E := E0) T.m_Sheet_contains.at_ T.m_Sheet_contains.fn G2 (hr.mono (by decide))) (pe_t (pv 2)) (pv 0) rfl)
        (pe_one (pe_fn G1 hr (by rfl) T.g_is_between D.kp pass0 (pa_cons (pe_t (pv 2)) (pa_cons pe_int (pa_cons (pv 1) pa_nil)))))))), ?_⟩
    refine q_when (b := false) (et_is (et_or (a := false) (et_is (et_not (et_B (ev_isi (x := .ref p) (ev_var rfl) ev_c (.ty _) (fun H1 e => .base (.tup (e _ _ hp))) (b := true) (kit_ty (by decide +kernel))))) rfl)
      fun _ => et_or (a := false) (et_is (et_test (ev_ne (ev_lenT (ev_var rfl) (st_of hp)) (y := .int 2) ev_c rfl)) rfl) fun _ => et_is (et_not (et_B (ev_isi (ev_ixT (i := 0) (ev_var rfl) (st_of hp) rfl) ev_c (.ty _) (fun _ _ => ty_str) (b := true) (kit_ty (by decide +kernel))))) (b := false) rfl) rfl) (fun h => by cases h) fun _ H1 e1 => ?_
    have S1 := S.ex e1
    have hp1 : CpAt H1 p c := e1 _ _ hp
    refine s_ret (v := .bl true) (ev_is (ev_andV (a := decide (c.1 ∈ rows)) (b := decide (1 ≤ c.2) && decide (c.2 ≤ kk)) ?_ fun _ => ?_) ?_) fun H2 e2 => k.go (e1.trans e2)
    · intro H2 e Q q
      refine ev_ixT (K := K) (i := 0) (σ := [some (V.ref a), some (V.int kk), some (V.ref p)]) (ta := tVar 2) (H := H1) (ev_var rfl) (st_of hp1) rfl H2 e _ fun H3 e3 => ⟨.ref a, rfl, ?_⟩
      have S3 := S1.ex (e.trans e3)
      obtain ⟨dx, n, d, o, z, ad, h1, _⟩ := S3.ex_
      exact ⟨a, dx, _, rfl, h1, a, rows, nd, c.1, rfl, S3, fun H4 e4 => ⟨_, rfl, q H4 (e3.trans e4)⟩⟩
    · exact ev_fn (vs := [.int c.2, .int 1, .int kk]) (ea_cons (ev_ixT (i := 1) (ev_var rfl) (st_of hp1) rfl) (ea_cons ev_c (ea_cons (ev_var rfl) ea_nil))) fun H1 e Q k' => ⟨c.2, 1, kk, rfl, k'⟩
    · rw [decide_eq_true hm, decide_eq_true c1, decide_eq_true c2]
      rfl
end
end K29
set_option Elab.async false
set_option linter.all false
set_option maxRecDepth 100000
set_option maxHeartbeats 4000000
/-! need_copies. -/
namespace K29
open PySem PySem.Spec PyProof.Rows L2 Evl
section
variable {K : PySem.W.Frag} {σ : L2.St} {H H' : Hp} {te ta tb : TE} {x y z v : V}
theorem cut_take (xs : List V) {i : Nat} (hi : i ≤ xs.length) : cutV xs none (some (i : Int)) = xs.take i := by
  unfold cutV
  rw [HT.sIx_none, HT.sIx_nat, Nat.min_eq_left hi, List.drop_zero, Nat.sub_zero]
/-- t[:i], i below the length -/
theorem eu_take {p : Addr} {xs : List V} {i : Nat} (h : Ev te σ H (.ref p)) (hi : Ev ta σ H (.int (i : Int))) (hs : SqT K H p xs) (hl : i < xs.length) : EvU (tSl (rSlT K) te tNoPart (tPart ta)) σ H (xs.take i) := fun H1 e _ q =>
  h H1 e _ fun H2 e2 => eo_none (H := H2) H2 (Ex.refl H2) _ fun H2' e2' => eo_some hi H2' ((e.trans e2).trans e2') _ fun H3 e3' => by
    have e3 := e2'.trans e3'
    exact ⟨p, xs, rfl, ex_t ((e.trans e2).trans e3) hs, fun z => by
    rw [HT.sIx_nat, Nat.min_eq_left (Nat.le_of_lt hl)] at z
    omega, fun r hr => by
    rw [cut_take xs (Nat.le_of_lt hl)]
    exact q r _ (fresh_back (e2.trans e3) hr) ((e2.trans e3).trans (Ex.new hr)) upd_same⟩
end
section
variable {P : Program} {w : World} {K : PySem.W.Frag} {mg : Str → Option Value} {base : Heap}
theorem any_take_not {α : Type} [DecidableEq α] {cs : List α} (hn : cs.Nodup) {i : Nat} {c : α} (hc : cs[i]? = some c) (f : α → PyData) (hf : ∀ x y, PyData.eqv (f x) (f y) = decide (x = y)) : (((cs.map f).take i).any fun z => PyData.eqv z (f c)) = false := by
  refine Bool.eq_false_iff.mpr fun h => ?_
  obtain ⟨z, hz, e⟩ := List.any_eq_true.mp h
  rw [← List.map_take] at hz
  obtain ⟨d, hd, rfl⟩ := List.mem_map.mp hz
  have e' : d = c := of_decide_eq_true ((hf d c).symm.trans e)
  subst e'
  obtain ⟨j, hj, ej⟩ := List.mem_iff_getElem.mp hd
  rw [List.getElem_take] at ej
  have hj' : j < i := by rw [List.length_take] at hj; omega
  obtain ⟨hi, ei⟩ := List.getElem?_eq_some_iff.mp hc
  have := (List.getElem_inj hn).mp (ej.trans ei.symm)
  omega
theorem sc_need_copies : FnScope ["sheet", "passes", "copies", "index", "copy"] ["sheet", "passes", "copies"] (defScope s_need_copies) := ⟨rfl, rfl, rfl, by decide +kernel, rfl, by decide +kernel, by decide +kernel⟩
def spNeedCopies (K : PySem.W.Frag) : Sp := fun vs H Q _ => ∃ (a t : Addr) (k : Int) (rows : List Str) (nd : Str → List Str) (cs : List (Str × Int)), vs = [.ref a, .int k, .ref t] ∧ ShAt (cS K) H a rows nd ∧ (∀ r ∈ rows, IsName r) ∧ CpsAt K H t cs ∧ cs.Nodup ∧ cs.length ≤ 120 ∧
  (∀ c ∈ cs, c.1 ∈ rows ∧ 1 ≤ c.2 ∧ c.2 ≤ k) ∧ RetV .non H Q
theorem ok_need_copies (T : Tx K mg) : FnR P w K mg base CX0 4 (He.ga K "need_copies") (spNeedCopies K) := by
  have G := ok_is_copy (P := P) (w := w) (base := base) T
  obtain ⟨fd, D⟩ := T.d_is_copy
  refine fnr T.d_need_copies sc_need_copies (fun _ _ _ _ _ _ us hl => match us, hl with | [_, _, _], _ => rfl) (fun vs H Q E h => ?_) (fun cdv A outer s H vs Q E hr h => ?_)
  · obtain ⟨a, t, k, rows, nd, cs, rfl, _⟩ := h
    rfl
  · obtain ⟨a, t, kk, rows, nd, cs, rfl, S, hnm, hp, hnd, hl, hcs, k⟩ := h
    refine ⟨_, pss_one (ps_for PassesOwn.never rfl (pi_enumT (by rfl) T.f_enumerate (pa_cons (pv 2) pa_nil))
        (pg_tup (n := 2) rfl (pgs_cons (pg_name (i := 3) sc_need_copies.nd rfl (Or.inl rfl)) (pgs_cons (pg_name (i := 4) sc_need_copies.nd rfl (Or.inl rfl)) pgs_nil)))
      (pss_one (ps_if (PW.pt (pw_or (pt_not (pt_val (pe_fn G hr (by rfl) T.g_is_copy D.kp pass0 (pa_cons (pv 0) (pa_cons (pv 1) (pa_cons (pv 4) pa_nil))))))
        (pw_or1 (pt_cmpR (op_inU (Nat.lt_of_le_of_lt (Nat.add_le_add_left (by decide : 65 ≤ 200) _) (Nat.lt_of_le_of_lt (Nat.add_le_add_right (Nat.le_add_right _ (16 * 3)) 200) hr.un))) (pv 4) (pe_slice sl_tup (pv 2) po_none (po_some (pv 3))) rfl)))) pss_dead pss_nil))), ?_⟩
    obtain ⟨ad, h1, h2⟩ := hp.ex_
    have wk := walk_enumT (K := K) (a := t) (xs := (List.range cs.length).map fun i => V.ref (ad i))
    rw [List.length_map, List.length_range] at wk
    refine s_forW wk (fun i σ' H' => Ex H H' ∧ ∃ x y, σ' = [some (.ref a), some (.int kk), some (.ref t), x, y]) (fun R k' => ⟨.ref t, rfl, t, _, rfl, h1, k' H (Ex.refl H) ⟨Ex.refl H, _, _, rfl⟩⟩) (fun i σ' H' _ p => ex_t p.1 h1) (fun i x σ' H1 H2 hi p y => ?_) fun σ' H' p => k.go p.1
    · obtain ⟨e, x1, y1, rfl⟩ := p
      obtain ⟨T', a1, b1, rfl, hT, rfl, ea, eb⟩ := y
      cases ea
      dsimp only at eb
      rw [List.getElem?_map, List.getElem?_range hi] at eb
      cases eb
      obtain ⟨c, hc⟩ : ∃ c, cs[i]? = some c := ⟨cs[i], List.getElem?_eq_getElem hi⟩
      obtain ⟨c1, c2, c3⟩ := hcs c (List.mem_of_getElem? hc)
      have e2 : Ex H (upd H1 T' (.tup [.int (i : Nat), .ref (ad i)])) := e.trans (Ex.new hT)
      refine ⟨T', _, rfl, st_of upd_same, rfl, .int (i : Nat), _, rfl, .ref (ad i), [], rfl, rfl, ?_⟩
      have S2 := S.ex e2
      have cp2 : CpAt (upd H1 T' (.tup [.int (i : Nat), .ref (ad i)])) (ad i) c := e2 _ _ (h2 i c hc)
      refine s_if (D := { nx := fun σ' H' => Ex H H' ∧ ∃ x y, σ' = [some (.ref a), some (.int kk), some (.ref t), x, y], rt := _, bk := _, ct := _ }) (b := false) (et_is (et_or (a := false) (et_is (et_not (et_B (b := true) (ev_fn (vs := [.ref a, .int kk, .ref (ad i)]) (ea_cons (ev_var rfl) (ea_cons (ev_var rfl) (ea_cons (ev_var rfl) ea_nil))) fun H4 e4 Q k' => ⟨a, ad i, kk, rows, nd, c, rfl, S2.ex e4, e4 _ _ cp2, c1, c2, c3, k'⟩))) rfl) fun _ => ?_) rfl) (fun h => by cases h) fun _ H3 e3 => ⟨e2.trans e3, _, _, rfl⟩
      have hz : ∀ c ∈ cs, PyData.strOk c.1 = true := fun c h => nm_ok (hnm _ (hcs c h).1)
      refine et_test (ev_is (ev_inU (ds := (cs.map cpD).take i) (ev_dat (ev_var rfl) (dp_cp cp2)) (eu_dat (eu_take (xs := (List.range cs.length).map fun i => V.ref (ad i)) (ev_var rfl) (ev_var rfl) (ex_t e2 h1) (by simpa using hi)) fun H4 e4 => ?_) (shaped_cp (hz c (List.mem_of_getElem? hc))) ?_) ?_)
      · rw [← List.map_take, ← List.map_take, List.take_range, ← List.length_take]
        exact dpAll_range cpD (cs.take i) _ fun j d hj => dp_cp (e4 _ _ (e2 _ _ (h2 j d (by
          rw [List.getElem?_take] at hj
          split at hj
          · exact hj
          · cases hj))))
      · rw [← List.map_take]
        exact shaped_C fun d hd => hz d (List.mem_of_mem_take hd)
      · rw [any_take_not hnd hc cpD eqv_cp]
end
end K29
set_option Elab.async false
set_option linter.all false
set_option maxRecDepth 100000
set_option maxHeartbeats 4000000
/-! A dict comprehension of two clauses: turned from the layer's list comprehension of two clauses and its dict comprehension of one (printed by gen_dc2.py). -/
namespace K29
open PySem PySem.Spec PyProof.Rows L2
theorem dcTurn_out (kx vx t0 i0 t1 i1 : Expr) (ifs0 ifs1 : List Expr) (scope : Scope) (pos : Pos) (it : Value) (D : Addr) (env : Env) :
    compTurn (.DictComp kx vx [⟨t0, i0, ifs0, 0⟩, ⟨t1, i1, ifs1, 0⟩] scope pos) 0 it (.ref D) env = (do
      standAt i0.pos
      match ← pyNext it with
      | none => pure (.done .next)
      | some v =>
        letOwnedTupleGo t0 it v
        assign t0 env v
        let mut ok := true
        for c in ifs0 do
          if ok then ok ← isTrue c env (eval c env)
        if ok then
          let x ← eval i1 env
          standAt i1.pos
          let x ← foldedSetIterable i1 env x
          let _ ← runOwn (.compStart (.DictComp kx vx [⟨t0, i0, ifs0, 0⟩, ⟨t1, i1, ifs1, 0⟩] scope pos) 1 (← holding [x] (pyIter x)) (.ref D) env) env
        again (.compLoop (.DictComp kx vx [⟨t0, i0, ifs0, 0⟩, ⟨t1, i1, ifs1, 0⟩] scope pos) 0 it (.ref D) env)) := by rfl
theorem dcTurn_in (kx vx t0 i0 t1 i1 : Expr) (ifs0 ifs1 : List Expr) (scope : Scope) (pos : Pos) (it : Value) (D : Addr) (env : Env) :
    compTurn (.DictComp kx vx [⟨t0, i0, ifs0, 0⟩, ⟨t1, i1, ifs1, 0⟩] scope pos) 1 it (.ref D) env = (do
      standAt i1.pos
      match ← pyNext it with
      | none => pure (.done .next)
      | some v =>
        letOwnedTupleGo t1 it v
        assign t1 env v
        let mut ok := true
        for c in ifs1 do
          if ok then ok ← isTrue c env (eval c env)
        if ok then
          (do
            let kv ← eval kx env
            let vv ← holding [kv] (eval vx env)
            standAt { kx.pos with endLine := vx.pos.endLine, endCol := vx.pos.endCol }
            holding [kv, vv] (dictSet D kv vv))
        again (.compLoop (.DictComp kx vx [⟨t0, i0, ifs0, 0⟩, ⟨t1, i1, ifs1, 0⟩] scope pos) 1 it (.ref D) env)) := by rfl

section
variable {prog : Program} {w : World} {A : Around} {R : Result → Shared → Prop} {s : Shared} {kx vx t0 i0 t1 i1 : Expr} {ifs0 ifs1 : List Expr} {scope : Scope} {pos : Pos} {it : Value} {D : Addr} {env : Env}
/-- the loop of the first clause -/
theorem dcLoop_out (hs : ∀ x, foldedSetIterable i1 env x = pure x) (I : Nat → Shared → Prop)
    (turn : ∀ n s, I n s → wpAny (model prog w) A (pyNext it) (fun r s₁ => match r with
      | none => R (.ok .next) s₁
      | some v => wpAny (model prog w) A (letOwnedTupleGo t0 it v) (fun _ s₁' => wpAny (model prog w) A (assign t0 env v) (fun _ s₂ =>
          wpAny (model prog w) A (forIn ifs0 true fun c r => if r = true then do let ok ← isTrue c env (eval c env); pure (ForInStep.yield ok) else pure (ForInStep.yield r)) (fun ok s₃ =>
            if ok = true then wpAny (model prog w) A (eval i1 env) (fun x s₄ => wpAny (model prog w) A (pyIter x) (fun it1 s₅ =>
              codeAny (model prog w) A (.compStart (.DictComp kx vx [⟨t0, i0, ifs0, 0⟩, ⟨t1, i1, ifs1, 0⟩] scope pos) 1 it1 (.ref D) env) (fun r s' => match r with
                | .ok _ => ∃ m, m < n ∧ I m s'
                | .error _ => False) s₅) (notedBy (model prog w) A env fun e s' => R (.error e) s') s₄) (notedBy (model prog w) A env fun e s' => R (.error e) s') s₃
            else ∃ m, m < n ∧ I m s₃) (notedBy (model prog w) A env fun e s' => R (.error e) s') s₂) (notedBy (model prog w) A env fun e s' => R (.error e) s') s₁') (notedBy (model prog w) A env fun e s' => R (.error e) s') s₁) (notedBy (model prog w) A env fun e s' => R (.error e) s') s)
    (n : Nat) (h : I n s) :
    codeAny (model prog w) A (.compLoop (.DictComp kx vx [⟨t0, i0, ifs0, 0⟩, ⟨t1, i1, ifs1, 0⟩] scope pos) 0 it (.ref D) env) R s := by
  refine codeAny_loop rfl I (fun n s hI => ?_) n h
  show wpAny _ A ((compTurn (.DictComp kx vx [⟨t0, i0, ifs0, 0⟩, ⟨t1, i1, ifs1, 0⟩] scope pos) 0 it (.ref D) env).onRaise (fun x => do noteFrame x env; theTreesLotGoes x)) _ _ s
  refine wpAny_noted ?_
  rw [dcTurn_out]
  refine wpAny_bind (wpAny_standAt (wpAny_bind (wpAny_mono (turn n s hI) (fun r s₁ g₁ => ?_) fun _ _ h' => h')))
  cases r with
  | none => exact wpAny_pure g₁
  | some v =>
    refine wpAny_bind (wpAny_mono g₁ (fun _ s₁' h₁' => ?_) fun _ _ h' => h')
    refine wpAny_bind (wpAny_mono h₁' (fun _ s₂ g₂ => wpAny_bind (wpAny_mono g₂ (fun ok s₃ g₃ => ?_) fun _ _ h' => h')) fun _ _ h' => h')
    cases ok with
    | false => exact wpAny_pure ⟨rfl, g₃⟩
    | true =>
      refine wpAny_bind (wpAny_mono g₃ (fun x s₄ g₄ => ?_) fun _ _ h' => h')
      refine wpAny_bind (wpAny_standAt (wpAny_bind (wpAny_of_eq (hs x) (wpAny_bind (wpAny_holding (wpAny_mono g₄ (fun it1 s₅ g₅ => ?_) fun _ _ h' => h'))))))
      refine wpAny_bind (wpAny_runOwn ?_)
      rw [Around.mark_none]
      refine codeAny_mono g₅ fun r s' hr => ?_
      cases r with
      | ok f =>
        first
          | exact wpAny_pure ⟨rfl, hr⟩
          | exact wpAny_bind (wpAny_pure (wpAny_pure ⟨rfl, hr⟩))
      | error e => exact hr.elim
/-- the loop of the second -/
theorem dcLoop_in (I : Nat → Shared → Prop)
    (turn : ∀ n s, I n s → wpAny (model prog w) A (pyNext it) (fun r s₁ => match r with
      | none => R (.ok .next) s₁
      | some v => wpAny (model prog w) A (letOwnedTupleGo t1 it v) (fun _ s₁' => wpAny (model prog w) A (assign t1 env v) (fun _ s₂ =>
          wpAny (model prog w) A (forIn ifs1 true fun c r => if r = true then do let ok ← isTrue c env (eval c env); pure (ForInStep.yield ok) else pure (ForInStep.yield r)) (fun ok s₃ =>
            if ok = true then wpAny (model prog w) A (eval kx env) (fun kv s₄ => wpAny (model prog w) A (eval vx env) (fun vv s₅ =>
              wpAny (model prog w) A (dictSet D kv vv) (fun _ s₆ => ∃ m, m < n ∧ I m s₆) (notedBy (model prog w) A env fun e s' => R (.error e) s') s₅) (notedBy (model prog w) A env fun e s' => R (.error e) s') s₄) (notedBy (model prog w) A env fun e s' => R (.error e) s') s₃
            else ∃ m, m < n ∧ I m s₃) (notedBy (model prog w) A env fun e s' => R (.error e) s') s₂) (notedBy (model prog w) A env fun e s' => R (.error e) s') s₁') (notedBy (model prog w) A env fun e s' => R (.error e) s') s₁) (notedBy (model prog w) A env fun e s' => R (.error e) s') s)
    (n : Nat) (h : I n s) :
    codeAny (model prog w) A (.compLoop (.DictComp kx vx [⟨t0, i0, ifs0, 0⟩, ⟨t1, i1, ifs1, 0⟩] scope pos) 1 it (.ref D) env) R s := by
  refine codeAny_loop rfl I (fun n s hI => ?_) n h
  show wpAny _ A ((compTurn (.DictComp kx vx [⟨t0, i0, ifs0, 0⟩, ⟨t1, i1, ifs1, 0⟩] scope pos) 1 it (.ref D) env).onRaise (fun x => do noteFrame x env; theTreesLotGoes x)) _ _ s
  refine wpAny_noted ?_
  rw [dcTurn_in]
  refine wpAny_bind (wpAny_standAt (wpAny_bind (wpAny_mono (turn n s hI) (fun r s₁ g₁ => ?_) fun _ _ h' => h')))
  cases r with
  | none => exact wpAny_pure g₁
  | some v =>
    refine wpAny_bind (wpAny_mono g₁ (fun _ s₁' h₁' => ?_) fun _ _ h' => h')
    refine wpAny_bind (wpAny_mono h₁' (fun _ s₂ g₂ => wpAny_bind (wpAny_mono g₂ (fun ok s₃ g₃ => ?_) fun _ _ h' => h')) fun _ _ h' => h')
    cases ok with
    | false => exact wpAny_pure ⟨rfl, g₃⟩
    | true =>
      exact wpAny_bind (wpAny_bind (wpAny_mono g₃ (fun kv s₄ g₄ => wpAny_bind (wpAny_holding (wpAny_mono g₄ (fun vv s₅ g₅ => wpAny_bind (wpAny_standAt (wpAny_holding (wpAny_mono g₅ (fun _ s₆ h₆ => wpAny_pure ⟨rfl, (h₆)⟩) fun _ _ h' => h')))) fun _ _ h' => h'))) fun _ _ h' => h'))
/-- the second clause's start -/
theorem dcStart1 (h0 : codeAny (model prog w) A (.compLoop (.DictComp kx vx [⟨t0, i0, ifs0, 0⟩, ⟨t1, i1, ifs1, 0⟩] scope pos) 1 it (.ref D) env) R s)
    (h : wpAny (model prog w) A (pyIter it) (fun it' s' => codeAny (model prog w) A (.compLoop (.DictComp kx vx [⟨t0, i0, ifs0, 0⟩, ⟨t1, i1, ifs1, 0⟩] scope pos) 1 it' (.ref D) env) R s')
      (notedBy (model prog w) A env fun x s' => R (.error x) s') s) :
    codeAny (model prog w) A (.compStart (.DictComp kx vx [⟨t0, i0, ifs0, 0⟩, ⟨t1, i1, ifs1, 0⟩] scope pos) 1 it (.ref D) env) R s := by
  refine codeAny_of_tree ?_
  show wpAny _ _ ((compStart (.DictComp kx vx [⟨t0, i0, ifs0, 0⟩, ⟨t1, i1, ifs1, 0⟩] scope pos) 1 it (.ref D) env).onRaise (fun x => do noteFrame x env; standAt theWindowsPlace)) _ _ s
  refine wpAny_notedAt ?_
  unfold compStart
  show wpAny _ _ (ask >>= _) _ _ s
  refine wpAny_bind (wpAny_askSetting (wpAny_ite ?_))
  split
  · first
      | exact wpAny_bind (wpAny_pure (wpAny_pure (And.intro rfl h0)))
      | exact wpAny_pure (And.intro rfl h0)
  · first
      | exact wpAny_bind (wpAny_rule (wpAny_bind (wpAny_standAt (wpAny_bind (wpAny_mono h (fun it' s' h' => wpAny_pure (And.intro rfl h')) fun _ _ x => x)))))
      | (refine wpAny_bind (wpAny_rule ?_); show wpAny _ _ (standAt i1.pos >>= _) _ _ s; exact wpAny_bind (wpAny_standAt (wpAny_bind (wpAny_mono h (fun it' s' h' => wpAny_pure (And.intro rfl h')) fun _ _ x => x))))
end

section
variable {X : Cx}
/-- {k: v for tg in iter if .. for tg1 in iter1 if ..} -/
def tDc2 (wi : TI) (g : TG) (tt : TT) (wi1 : TI) (g1 : TG) (tt1 : TT) (tk tv : TE) (vs vs1 : List Nat) : TE := fun σ H Q => wi σ H fun J H1 => ∀ D, H1 D = none → ∃ W : Nat → Nat → Hp → Prop, (∃ m, W 0 m (upd H1 D (.dK []))) ∧ ∀ i m H, W i m H →
  (J.stop i H ∧ Q (.ref D) H) ∨ (J.go i H ∧ ∃ Nx : Hp → Prop, (∀ H', Nx H' → ∃ m2, m2 < m ∧ W (i + 1) m2 H') ∧ ∀ x H', J.yld i H x H' → g x (wipe σ vs) H' fun σ2 H2 => wipe σ2 vs = wipe σ vs ∧ tt σ2 H2 fun b H3 => if b = true then wi1 σ2 H3 fun J1 H4 =>
    ∃ W1 : Nat → Nat → Hp → Prop, (∃ m, W1 0 m H4) ∧ ∀ j k H, W1 j k H → (J1.stop j H ∧ Nx H) ∨ (J1.go j H ∧ ∃ Nx1 : Hp → Prop, (∀ H', Nx1 H' → ∃ k', k' < k ∧ W1 (j + 1) k' H') ∧ ∀ x H', J1.yld j H x H' → g1 x (wipe σ2 vs1) H' fun σ3 H5 => wipe σ3 vs1 = wipe σ2 vs1 ∧ tt1 σ3 H5 fun b H6 =>
        if b = true then tk σ3 H6 fun y H7 => tv σ3 H7 fun z H8 => ∃ kvs k, y = kV k ∧ H8 D = some (.dK kvs) ∧ kvs.length < sizeLine ∧ Nx1 (upd H8 D (.dK (putK kvs k z))) else Nx1 H6)
    else Nx H3)
theorem dc2_core {pins : List (Addr × Obj)} {s : Shared} {σ : L2.St} {H : Hp} {Q : VK} {kx vx tg iter tg1 iter1 : Expr} {ifs ifs1 : List Expr} {scope : Scope} {own : List (Str × Nat)} {vs1 : List Nat} {pos pos' : Pos} {wi wi1 : TI} {g g1 : TG} {tt tt1 : TT} {tk tv : TE} {use : Option (Value → Sem Unit)} {Qf : Value → Shared → Prop}
    (hc : X.calm = true) (hN : X.N.Nodup) (I : Inv X pins σ H s) (hi : PI X tg iter wi) (ok : BlkOk X.N X.env.scope scope own) (hv : ∀ i ∈ vs1, i ∈ own.map (·.2))
    (hg : ∀ (s : Shared) (H : Hp) (C : Addr) (cl : List (Str × Addr)) (fp : List Addr), PG (X.blk s H scope (compEnvC scope cl C X.env) fp) tg g) (ht : ∀ (s : Shared) (H : Hp) (C : Addr) (cl : List (Str × Addr)) (fp : List Addr), PTs (X.blk s H scope (compEnvC scope cl C X.env) fp) ifs tt)
    (hk : ∀ (s : Shared) (H : Hp) (C : Addr) (cl : List (Str × Addr)) (fp : List Addr), PE (X.blk s H scope (compEnvC scope cl C X.env) fp) kx tk) (he : ∀ (s : Shared) (H : Hp) (C : Addr) (cl : List (Str × Addr)) (fp : List Addr), PE (X.blk s H scope (compEnvC scope cl C X.env) fp) vx tv) (hs : ∀ x, foldedSetIterable iter X.env x = pure x)
    (hi1 : ∀ (s : Shared) (H : Hp) (C : Addr) (cl : List (Str × Addr)) (fp : List Addr), PI (X.blk s H scope (compEnvC scope cl C X.env) fp) tg1 iter1 wi1)
    (hg1 : ∀ (s : Shared) (H : Hp) (C : Addr) (cl : List (Str × Addr)) (fp : List Addr), PG (X.blk s H scope (compEnvC scope cl C X.env) fp) tg1 g1)
    (ht1 : ∀ (s : Shared) (H : Hp) (C : Addr) (cl : List (Str × Addr)) (fp : List Addr), PTs (X.blk s H scope (compEnvC scope cl C X.env) fp) ifs1 tt1)
    (hs1 : ∀ env x, foldedSetIterable iter1 env x = pure x)
    (h : tDc2 wi g tt wi1 g1 tt1 tk tv (own.map (·.2)) vs1 σ H Q)
    (hPost : ∀ D C s' m H', Inv X pins σ H' s' → Q (.ref D) H' → s'.heap.Ns C m → FpOk X pins H' C → compPost (model X.prog X.w) X.A X.xe use Qf (.ref D) C (.ok .next) s') :
    wpAny (model X.prog X.w) X.A (comprehension (.DictComp kx vx [⟨tg, iter, ifs, 0⟩, ⟨tg1, iter1, ifs1, 0⟩] scope pos) scope X.env pos' newDict false (eval iter X.env) use) Qf X.xe s := by
  have frees : ∀ y ∈ scope.names, y.2 = .free → ∃ c, X.env.cells.lookup y.1 = some c := fun y hy e => by
    rcases ok.free y hy e with k | k
    · exact I.ok.has _ (.inl k)
    · exact I.ok.has _ (.inr k)
  refine wpAny_comprehension_free (use := use) rfl hs (closure_ok frees) ok.kind (fun y hy e => by rw [ok.uniq y hy, e])
    (thn (hi.run pins s σ H _ I h) fun xv s1 hx => thn hx fun itv s2 h2 => ?_)
  obtain ⟨it, fp, tn, J, H2, e, I2, T, st2, f2, q⟩ := h2
  subst e
  refine wpAny_newObj_type (newEnv_comp ?_)
  generalize hD : s2.heap.objs.size = D
  have dfresh : H2 D = none := I2.hok.fresh (Nat.le_of_eq hD)
  obtain ⟨W, ⟨m0, w0⟩, turn⟩ := q D dfresh
  -- the new list
  generalize es3 : ({ s2 with heap := s2.heap.push { cls := .type "dict", data := .dict #[] } } : Shared) = s3
  have I3 : Inv X pins σ (upd H2 D (.dK [])) s3 := by
    rw [← es3]
    refine I2.laid (t' := s2.toks) (fun b o e => Heap.get?_push_of_some _ e) (Nat.le_of_eq hD) ?_
    rw [← hD]
    exact dk_empty s2.heap I2.big
  have h3 : s3.heap = s2.heap.push { cls := .type "dict", data := .dict #[] } := by rw [← es3]
  have lts : ∀ b ∈ fp, b < s2.heap.objs.size := fun b hb => by
    obtain ⟨o, e, _⟩ := T.obj _ _ st2 b hb
    exact Heap.lt_size e
  have f3 : ∀ b ∈ fp, FpOk X pins (upd H2 D (.dK [])) b ∧ b < s3.heap.objs.size := fun b hb => by
    have blt := lts b hb
    refine ⟨⟨?_, (f2 b hb).2⟩, by rw [h3, Heap.size_push]; exact Nat.lt_succ_of_lt blt⟩
    rw [upd_ne (by rw [← hD]; exact Nat.ne_of_lt blt)]
    exact (f2 b hb).1
  have st3 : tn 0 s3.heap := T.keep _ _ _ st2 fun b _ o e => by rw [h3]; exact Heap.get?_push_of_some _ e
  have I4 := block_start I3 ok hN f3
  have pg := hg s3 (upd H2 D (.dK [])) s3.heap.objs.size (cellsFrom (s3.heap.objs.size + 1) scope.names (cloFrom X.env.cells scope.names [])) fp
  have pt := ht s3 (upd H2 D (.dK [])) s3.heap.objs.size (cellsFrom (s3.heap.objs.size + 1) scope.names (cloFrom X.env.cells scope.names [])) fp
  have pk := hk s3 (upd H2 D (.dK [])) s3.heap.objs.size (cellsFrom (s3.heap.objs.size + 1) scope.names (cloFrom X.env.cells scope.names [])) fp
  have pe := he s3 (upd H2 D (.dK [])) s3.heap.objs.size (cellsFrom (s3.heap.objs.size + 1) scope.names (cloFrom X.env.cells scope.names [])) fp
  have pi1 := hi1 s3 (upd H2 D (.dK [])) s3.heap.objs.size (cellsFrom (s3.heap.objs.size + 1) scope.names (cloFrom X.env.cells scope.names [])) fp
  have pg1 := hg1 s3 (upd H2 D (.dK [])) s3.heap.objs.size (cellsFrom (s3.heap.objs.size + 1) scope.names (cloFrom X.env.cells scope.names [])) fp
  have pt1 := ht1 s3 (upd H2 D (.dK [])) s3.heap.objs.size (cellsFrom (s3.heap.objs.size + 1) scope.names (cloFrom X.env.cells scope.names [])) fp
  show codeAny _ _ (.compStart (.DictComp kx vx [⟨tg, iter, ifs, 0⟩, ⟨tg1, iter1, ifs1, 0⟩] scope pos) 0 (.ref it) (.ref D) (compEnvC scope (cellsFrom (s3.heap.objs.size + 1) scope.names (cloFrom X.env.cells scope.names [])) s3.heap.objs.size X.env)) (compPost (model X.prog X.w) X.A X.xe use Qf (.ref D) s3.heap.objs.size) { s3 with heap := pushCells (s3.heap.push { cls := .type "dict", data := .dict #[] }) scope.names }
  have fpn : ∀ b ∈ fp, (upd H2 D (.dK [])) b = none := fun b hb => (f3 b hb).1.1
  generalize ece : compEnvC scope (cellsFrom (s3.heap.objs.size + 1) scope.names (cloFrom X.env.cells scope.names [])) s3.heap.objs.size X.env = ce at I4 pg pt pk pe pi1 pg1 pt1 ⊢
  have cL : ce.locals = s3.heap.objs.size := by subst ece; rfl
  generalize eH3 : upd H2 D (.dK []) = H3 at I3 I4 pg pt pk pe pi1 pg1 pt1 w0 fpn f3
  generalize es4 : ({ s3 with heap := pushCells (s3.heap.push { cls := .type "dict", data := .dict #[] }) scope.names } : Shared) = s4 at I4 ⊢
  have st4 : tn 0 s4.heap := T.keep _ _ _ st3 fun b _ o e => by rw [← es4]; exact pushCells_keeps _ _ _ _ (Heap.get?_push_of_some _ e)
  have sta : ∀ {σ' : L2.St} {H' : Hp} {s' : Shared}, Inv (X.blk s3 H3 scope ce fp) [] σ' H' s' → (∀ b ∈ fp, H' b = none) → ∀ b ∈ fp, FpOk (X.blk s3 H3 scope ce fp) [] H' b := fun {σ' H' s'} I' hn b hb =>
    ⟨hn b hb, (I'.ok.exf b hb).1, I'.ok.exfs b hb, .inl hb, fun x c e => (I'.ok.exf b hb).2 x c e, fun p hp => absurd (show p ∈ ([] : List (Addr × Obj)) ++ [] from hp) (by simp)⟩
  have loop : codeAny (model X.prog X.w) X.A (.compLoop (.DictComp kx vx [⟨tg, iter, ifs, 0⟩, ⟨tg1, iter1, ifs1, 0⟩] scope pos) 0 (.ref it) (.ref D) ce) (compPost (model X.prog X.w) X.A X.xe use Qf (.ref D) s3.heap.objs.size) s4 := by
    refine dcLoop_out (hs1 ce) (fun n s' => ∃ i H', Inv (X.blk s3 H3 scope ce fp) [] (wipe σ (own.map (·.2))) H' s' ∧ tn i s'.heap ∧ (∀ b ∈ fp, H' b = none) ∧ W i n H') ?_ m0 ⟨0, H3, I4, st4, fpn, w0⟩
    rintro n s5 ⟨i, H5, J5, st5, n5, w5⟩
    rcases turn i n H5 w5 with ⟨stop, qq⟩ | ⟨go, Nx, hNx, step⟩
    · have td := T.done (X.blk s3 H3 scope ce fp) rfl rfl rfl hc i [] s5 _ H5 (fun _ _ => False) J5 (sta J5 n5) st5 stop
      refine thnF td fun r s6 ⟨hr, J6⟩ => ?_
      subst hr
      -- back in the def's context
      have J7 : Inv X pins σ H5 s6 := I3.call' (ch := fp) J6.os J6.base J6.hok J6.bare fun b hb => ⟨(f3 b hb).1.2.2.2.1, (f3 b hb).1.2.1, (f3 b hb).1.2.2.2.2.1, (f3 b hb).1.2.2.2.2.2⟩
      have cfree : H5 s3.heap.objs.size = none := by
        have z : H5 ce.locals = none := J6.free
        rw [cL] at z
        exact z
      obtain ⟨m, hn, _⟩ := J6.loc
      have hn : s6.heap.Ns ce.locals m := hn
      rw [cL] at hn
      exact hPost D s3.heap.objs.size s6 m H5 J7 qq hn (I3.fpOk (Nat.le_refl _) cfree)
    · have ti := T.item (X.blk s3 H3 scope ce fp) rfl rfl rfl hc i [] s5 _ H5 (fun _ _ => False) J5 (sta J5 n5) st5 go
      refine thnF ti fun r s6 ⟨u, hr, h6⟩ => ?_
      subst hr
      refine thnF h6 fun _ s7 ⟨x, H7, J7, r7, y7, st7, n7⟩ => ?_
      have I7' := J7.pinned (sta J7 n7) (T.obj _ _ st7)
      refine thnF (pg.run _ s7 _ H7 x u _ I7' r7 (step x H7 y7)) fun _ s8 ⟨σ8, H8, J8, hw8, q8⟩ => ?_
      refine thnF (pt.run _ s8 σ8 H8 _ J8 q8) fun b s9 ⟨H9, J9, q9⟩ => ?_
      -- the turn's end, from any slots that know what the block knew at its start
      have end0 : ∀ {σ9 : L2.St} {s' : Shared} {H' : Hp}, Inv (X.blk s3 H3 scope ce fp) ([] ++ pinsAt fp s7.heap) σ9 H' s' → (wipe σ (own.map (·.2))).length = σ9.length → (∀ (j : Nat) v, (wipe σ (own.map (·.2)))[j]? = some (some v) → σ9[j]? = some (some v)) → Nx H' →
          ∃ m, m < n ∧ ∃ i H', Inv (X.blk s3 H3 scope ce fp) [] (wipe σ (own.map (·.2))) H' s' ∧ tn i s'.heap ∧ (∀ b ∈ fp, H' b = none) ∧ W i m H' := fun {σ9 s' H'} I' hl hk nx => by
        obtain ⟨m2, hm, v'⟩ := hNx H' nx
        have pins2 : ∀ b ∈ fp, ∀ o, s7.heap.get? b = some o → s'.heap.get? b = some o ∧ H' b = none := fun b hb o e =>
          let z := I'.pin (b, o) (List.mem_append_right _ (List.mem_append_right _ (mem_pinsAt hb e)))
          ⟨z.1, z.2.1⟩
        refine ⟨m2, hm, i + 1, H', (I'.unpinned (pins := [])).weak hl hk, T.keep _ _ _ st7 fun b hb o e => (pins2 b hb o e).1, fun b hb => ?_, v'⟩
        obtain ⟨o, e, _⟩ := T.obj _ _ st7 b hb
        exact (pins2 b hb o e).2
      have len8 : (wipe σ (own.map (·.2))).length = σ8.length := by rw [← hw8, wipe_length]
      have has8 : ∀ (j : Nat) v, (wipe σ (own.map (·.2)))[j]? = some (some v) → σ8[j]? = some (some v) := fun j v e => by
        rw [← hw8] at e
        exact (wipe_some e).1
      have has9 : ∀ (j : Nat) v, (wipe σ (own.map (·.2)))[j]? = some (some v) → (wipe σ8 vs1)[j]? = some (some v) := fun j v e => by
        rw [← hw8] at e
        obtain ⟨e1, e2⟩ := wipe_some e
        rw [wipe_out fun z => e2 (hv j z)]
        exact e1
      cases b with
      | false =>
        simp only [Bool.false_eq_true, if_false] at q9 ⊢
        exact end0 J9 len8 has8 q9
      | true =>
        simp only [if_true] at q9 ⊢
        refine thnF (pi1.run _ s9 σ8 H9 _ J9 q9) fun xv s10 hx => thnF hx fun itv s11 h11 => ?_
        obtain ⟨it1, fp1, tn1, J1, H11, e1, I11, T1, st11, f11, W1, ⟨m1, w1⟩, turn1⟩ := h11
        subst e1
        -- the inner loop
        have sta1 : ∀ {H' : Hp}, (∀ b ∈ fp1, H' b = none) → ∀ b ∈ fp1, FpOk (X.blk s3 H3 scope ce fp) ([] ++ pinsAt fp s7.heap) H' b := fun hn b hb => ⟨hn b hb, (f11 b hb).2⟩
        have loop1 : codeAny (model X.prog X.w) X.A (.compLoop (.DictComp kx vx [⟨tg, iter, ifs, 0⟩, ⟨tg1, iter1, ifs1, 0⟩] scope pos) 1 (.ref it1) (.ref D) ce)
            (fun r s' => match r with
              | .ok _ => ∃ m, m < n ∧ ∃ i H', Inv (X.blk s3 H3 scope ce fp) [] (wipe σ (own.map (·.2))) H' s' ∧ tn i s'.heap ∧ (∀ b ∈ fp, H' b = none) ∧ W i m H'
              | .error _ => False) s11 := by
          refine dcLoop_in (fun k s' => ∃ j H', Inv (X.blk s3 H3 scope ce fp) ([] ++ pinsAt fp s7.heap) (wipe σ8 vs1) H' s' ∧ tn1 j s'.heap ∧ (∀ b ∈ fp1, H' b = none) ∧ W1 j k H') ?_ m1 ⟨0, H11, I11.weak (wipe_length _ _) (fun j v e => (wipe_some e).1), st11, fun b hb => (f11 b hb).1, w1⟩
          rintro k s12 ⟨j, H12, J12, st12, n12, w12⟩
          rcases turn1 j k H12 w12 with ⟨stop1, nx1⟩ | ⟨go1, Nx1, hNx1, step1⟩
          · refine thnF (T1.done (X.blk s3 H3 scope ce fp) rfl rfl rfl hc j _ s12 (wipe σ8 vs1) H12 (fun _ _ => False) J12 (sta1 n12) st12 stop1) fun r s13 ⟨hr, J13⟩ => ?_
            subst hr
            exact end0 J13 (len8.trans (wipe_length σ8 vs1).symm) has9 nx1
          · refine thnF (T1.item (X.blk s3 H3 scope ce fp) rfl rfl rfl hc j _ s12 (wipe σ8 vs1) H12 (fun _ _ => False) J12 (sta1 n12) st12 go1) fun r s13 ⟨u1, hr, h13⟩ => ?_
            subst hr
            refine thnF h13 fun _ s14 ⟨x1, H14, I14, r14, y14, st14, n14⟩ => ?_
            have I14' := I14.pinned (sta1 n14) (T1.obj _ _ st14)
            refine thnF (pg1.run _ s14 (wipe σ8 vs1) H14 x1 u1 _ I14' r14 (step1 x1 H14 y14)) fun _ s15 ⟨σ15, H15, I15, hw15, q15⟩ => ?_
            refine thnF (pt1.run _ s15 σ15 H15 _ I15 q15) fun b1 s16 ⟨H16, I16, q16⟩ => ?_
            have end1 : ∀ {s' : Shared} {H' : Hp}, Inv (X.blk s3 H3 scope ce fp) (([] ++ pinsAt fp s7.heap) ++ pinsAt fp1 s14.heap) σ15 H' s' → Nx1 H' → ∃ m, m < k ∧ ∃ j H', Inv (X.blk s3 H3 scope ce fp) ([] ++ pinsAt fp s7.heap) (wipe σ8 vs1) H' s' ∧ tn1 j s'.heap ∧ (∀ b ∈ fp1, H' b = none) ∧ W1 j m H' := fun {s' H'} I' nx => by
              obtain ⟨m2, hm, v'⟩ := hNx1 H' nx
              have pins2 : ∀ b ∈ fp1, ∀ o, s14.heap.get? b = some o → s'.heap.get? b = some o ∧ H' b = none := fun b hb o e =>
                let z := I'.pin (b, o) (List.mem_append_right _ (List.mem_append_right _ (mem_pinsAt hb e)))
                ⟨z.1, z.2.1⟩
              refine ⟨m2, hm, j + 1, H', I'.unpinned.weak (by rw [← hw15, wipe_length]) (fun j v e => by rw [← hw15] at e; exact (wipe_some e).1), T1.keep _ _ _ st14 fun b hb o e => (pins2 b hb o e).1, fun b hb => ?_, v'⟩
              obtain ⟨o, e, _⟩ := T1.obj _ _ st14 b hb
              exact (pins2 b hb o e).2
            cases b1 with
            | false =>
              simp only [Bool.false_eq_true, if_false] at q16 ⊢
              exact end1 I16 q16
            | true =>
              simp only [if_true] at q16 ⊢
              refine thnF (pk.run _ s16 σ15 H16 _ I16 q16) fun z s17 ⟨yk, H17, I17, r17, q17⟩ => ?_
              refine thnF (pe.run _ s17 σ15 H17 _ I17 q17) fun z2 s18 ⟨yv, H18, I18, r18, kvs, k1, ek, hD18, hz18, nx⟩ => ?_
              subst ek
              exact d_dictSet (X := X.blk s3 H3 scope ce fp) I18 hD18 hz18 r17 r18 fun s19 I19 => end1 I19 nx
        exact dcStart1 loop1 (T1.self X.A 0 _ _ _ st11 loop1)
  exact codeAny_compStart_dict loop (T.self X.A 0 _ _ _ st4 loop)
/-- as a value -/
theorem pe_dc2 {kx vx tg iter tg1 iter1 : Expr} {ifs ifs1 : List Expr} {scope : Scope} {own : List (Str × Nat)} {vs1 : List Nat} {pos : Pos} {wi wi1 : TI} {g g1 : TG} {tt tt1 : TT} {tk tv : TE} (hc : X.calm = true) (hN : X.N.Nodup) (hi : PI X tg iter wi) (ok : BlkOk X.N X.env.scope scope own) (hv : ∀ i ∈ vs1, i ∈ own.map (·.2))
    (hg : ∀ (s : Shared) (H : Hp) (C : Addr) (cl : List (Str × Addr)) (fp : List Addr), PG (X.blk s H scope (compEnvC scope cl C X.env) fp) tg g) (ht : ∀ (s : Shared) (H : Hp) (C : Addr) (cl : List (Str × Addr)) (fp : List Addr), PTs (X.blk s H scope (compEnvC scope cl C X.env) fp) ifs tt)
    (hi1 : ∀ (s : Shared) (H : Hp) (C : Addr) (cl : List (Str × Addr)) (fp : List Addr), PI (X.blk s H scope (compEnvC scope cl C X.env) fp) tg1 iter1 wi1)
    (hg1 : ∀ (s : Shared) (H : Hp) (C : Addr) (cl : List (Str × Addr)) (fp : List Addr), PG (X.blk s H scope (compEnvC scope cl C X.env) fp) tg1 g1) (ht1 : ∀ (s : Shared) (H : Hp) (C : Addr) (cl : List (Str × Addr)) (fp : List Addr), PTs (X.blk s H scope (compEnvC scope cl C X.env) fp) ifs1 tt1)
    (hk : ∀ (s : Shared) (H : Hp) (C : Addr) (cl : List (Str × Addr)) (fp : List Addr), PE (X.blk s H scope (compEnvC scope cl C X.env) fp) kx tk) (he : ∀ (s : Shared) (H : Hp) (C : Addr) (cl : List (Str × Addr)) (fp : List Addr), PE (X.blk s H scope (compEnvC scope cl C X.env) fp) vx tv) (hs : ∀ x, foldedSetIterable iter X.env x = pure x := by intro _; rfl) (hs1 : ∀ env x, foldedSetIterable iter1 env x = pure x := by intro _ _; rfl) :
    PE X (.DictComp kx vx [⟨tg, iter, ifs, 0⟩, ⟨tg1, iter1, ifs1, 0⟩] scope pos) (tDc2 wi g tt wi1 g1 tt1 tk tv (own.map (·.2)) vs1) := by
  refine ⟨fun pins s σ H Q I h => ?_⟩
  rw [arm_eval_DictComp]
  refine dc2_core hc hN I hi ok hv hg ht hk he hs hi1 hg1 ht1 hs1 h fun D C s' m H' I' q hn f => ⟨m, hn, fun h'' sb => ?_⟩
  obtain ⟨f0, f1, f2, f3, f4, f5⟩ := f
  exact ⟨.ref D, H', I'.turned (t' := s'.toks) (fun b o hb e => (sb.2 b hb).trans e) f0 f1 f3 f4 f5, rfl, q⟩
end
end K29
set_option Elab.async false
set_option linter.all false
set_option maxRecDepth 100000
set_option maxHeartbeats 4000000
/-! closure. -/
namespace K29
open PySem PySem.Spec PyProof.Rows L2 Evl
/-! ### *d in an argument list or a display: a dict's keys -/
def tStarD (te : TE) (t : TA) : TA := fun σ H Q => te σ H fun x H1 => ∃ p kvs, x = V.ref p ∧ Rd H1 p (.dK kvs) ∧ t σ H1 fun ys H2 => Q (kvs.map (fun kv => kV kv.1) ++ ys) H2
section
variable {X : Cx} {e : Expr} {es : List Expr} {te : TE} {t : TA} {p : Pos}
theorem star_d {pins : List (Addr × Obj)} {σ : L2.St} {H : Hp} {s : Shared} {a : Addr} {kvs : List (Key × V)} {E : Value → Shared → Prop} {Q : List Value → Shared → Prop} (hc : X.calm = true) (I : Inv X pins σ H s) (h : Rd H a (.dK kvs))
    (hQ : ∀ us s', Inv X pins σ H s' → Vals (kvs.map fun kv => kV kv.1) us → Q us s') : PySem.W.StarOf (model X.prog X.w) X.A E (.ref a) Q s := by
  obtain ⟨z, lo, vs, rel, dd⟩ := dk_rd I.hok h
  obtain ⟨ep, hat⟩ := dd.dictAt
  have hz : vs.length ≤ sizeLine := by rw [← rel.length]; exact z
  unfold PySem.W.StarOf notIterableAtAll
  refine wpAny_bind (wpAny_specialOf dd.typeIs PySem.F.slot_dict_iter.lookup (wpAny_pure ⟨rfl, ?_⟩))
  refine PySem.W.kdu_collect (A := X.A) (PySem.W.kdl_dict (knd := mixKind X.prog X.w) (kvs := vs) (ep := ep) lo) (I.ok.hd hc) hat hz fun h' tk acc hk hacc => ?_
  refine hQ _ _ (I.kept hk) ?_
  have e : kvs.map (fun kv => kV kv.1) = vs.map fun p => kV p.1 := by
    have k := rel.keys
    have := congrArg (List.map kV) k
    rw [List.map_map, List.map_map] at this
    exact this
  rw [e]
  exact keys_at (by rw [Array.length_toList]; exact hacc.1) fun j v ej => hacc.2 j v (by rw [← Array.getElem?_toList]; exact ej)
theorem pa_starD (hc : X.calm = true) (he : PE X e te) (hr : PA X es t) (hs : starEach (.Starred e p :: es) X.env = (true, eval e X.env) :: starEach es X.env := by rfl) : PA X (.Starred e p :: es) (tStarD te t) := by
  refine ⟨fun pos pins s σ H Q I h => PySem.W.items_star (thn (he.run pins s σ H _ I h) fun v s1 ⟨y, H1, I1, ry, a, kvs, ey, hx, q⟩ => ?_) hs⟩
  subst ey
  cases ry
  refine star_d hc I1 hx fun us s2 I2 rv => ?_
  exact thn (hr.run pos pins s2 σ H1 _ I2 q) fun ws s3 ⟨vs, H3, I3, r3, q3⟩ => ⟨_, H3, I3, rv.append r3, q3⟩
end
/-! ### keys put in -/
def insK (ks : List Str) (x : Str) : List Str := if x ∈ ks then ks else ks ++ [x]
def insAll (ks : List Str) (l : List Str) : List Str := l.foldl insK ks
theorem mem_insK {ks : List Str} {x y : Str} : y ∈ insK ks x ↔ y ∈ ks ∨ y = x := by
  unfold insK
  by_cases h : x ∈ ks
  · rw [if_pos h]
    exact ⟨.inl, fun q => q.elim (fun z => z) fun z => z ▸ h⟩
  · rw [if_neg h, List.mem_append, List.mem_singleton]
theorem mem_insAll : ∀ {l ks : List Str} {y : Str}, y ∈ insAll ks l ↔ y ∈ ks ∨ y ∈ l
  | [], ks, y => by simp [insAll]
  | x :: l, ks, y => by
    show y ∈ insAll (insK ks x) l ↔ _
    rw [mem_insAll, mem_insK, List.mem_cons, or_assoc]
theorem insAll_app (ks a b : List Str) : insAll ks (a ++ b) = insAll (insAll ks a) b := List.foldl_append
theorem insK_len (ks : List Str) (x : Str) : (insK ks x).length ≤ ks.length + 1 := by
  unfold insK
  split
  · omega
  · rw [List.length_append]; simp
theorem insAll_len : ∀ (l ks : List Str), (insAll ks l).length ≤ ks.length + l.length
  | [], ks => Nat.le_refl _
  | x :: l, ks => by
    have h1 := insAll_len l (insK ks x)
    have h2 := insK_len ks x
    show (insAll (insK ks x) l).length ≤ _
    rw [List.length_cons]
    omega
abbrev tru : Str → V := fun _ => .bl true
theorem putK_at {κ : Type} [DecidableEq κ] (k : κ) (v : V) : ∀ kvs : List (κ × V), valV kvs k = some v → (∀ p ∈ kvs, p.1 = k → p.2 = v) → putK kvs k v = kvs := by
  intro kvs h hall
  unfold putK
  have hk : (kvs.any fun kv => decide (kv.1 = k)) = true := by rw [valV_any, h]; rfl
  rw [if_pos hk]
  conv => rhs; rw [← List.map_id kvs]
  refine List.map_congr_left fun p hp => ?_
  split
  · rename_i e
    rw [← hall p hp e]
    rfl
  · rfl
theorem putK_tru (ks : List Str) (x : Str) : putK (dO ks tru) (Sum.inr x) (.bl true) = dO (insK ks x) tru := by
  by_cases h : x ∈ ks
  · unfold insK
    rw [if_pos h]
    refine putK_at _ _ _ (by rw [valV_dO, if_pos h]) fun p hp _ => ?_
    obtain ⟨r, _, rfl⟩ := List.mem_map.mp hp
    rfl
  · unfold insK
    rw [if_neg h, putK_dO h]
    exact dO_congr fun q _ => by split <;> rfl
/-- a new dict of these keys -/
def EvN (te : TE) (σ : L2.St) (H : Hp) (ks : List Str) : Prop := ∀ H1, Ex H H1 → ∀ Q : VK, (∀ p H2, H1 p = none → Ex H1 H2 → H2 p = some (.dK (dO ks tru)) → Q (.ref p) H2) → te σ H1 Q
section
variable {K : PySem.W.Frag} {σ : L2.St} {H H' : Hp} {tl te ta tb : TE}
theorem ed_dc2 {p : Addr} {os : List Str} {f : Str → List Str} {jo jr : Nat} {vs vs1 : List Nat} (h : Ev tl σ H (.ref p)) (hp : SqT K H p (os.map V.str)) (hz : ∀ i, i ≤ os.length → ((os.take i).flatMap f).length ≤ 2000) (hf : ∀ o ∈ os, (f o).length ≤ 2000)
    (hw : ∀ x, wipe ((wipe σ vs).set jo (some x)) vs = wipe σ vs) (hw1 : ∀ x y, wipe ((wipe ((wipe σ vs).set jo (some x)) vs1).set jr (some y)) vs1 = wipe ((wipe σ vs).set jo (some x)) vs1)
    (hr : ∀ x y, ((wipe ((wipe σ vs).set jo (some x)) vs1).set jr (some y))[jr]? = some (some y))
    (hi : ∀ o ∈ os, ∀ H1, Ex H H1 → EvU te ((wipe σ vs).set jo (some (.str o))) H1 ((f o).map V.str)) :
    EvN (tDc2 (iTup K tl) (gName jo) tYes (iTup K te) (gName jr) tYes (tVar jr) (tC (.bl true)) vs vs1) σ H (insAll [] (os.flatMap f)) := fun H0 e Q q => h H0 e _ fun H1 e1 => ⟨p, rfl, ⟨_, ex_t (e.trans e1) hp⟩, fun D hD => by
  have w := walk_tup (K := K) (a := p) (xs := os.map V.str)
  rw [List.length_map] at w
  have stp : ∀ {H2 : Hp}, Ex H1 H2 → SqT K H2 p (os.map V.str) := fun e2 => ex_t ((e.trans e1).trans e2) hp
  refine ⟨fun i m H' => m = os.length - i ∧ i ≤ os.length ∧ Ex H1 H' ∧ H' D = some (.dK (dO (insAll [] ((os.take i).flatMap f)) tru)), ⟨os.length, by simp, Nat.zero_le _, Ex.new hD, upd_same⟩, ?_⟩
  rintro i m H2 ⟨rfl, hi', c1, c2⟩
  by_cases hlt : i < os.length
  · refine .inr ⟨w.goes i H2 hlt (stp c1), fun H' => Ex H1 H' ∧ H' D = some (.dK (dO (insAll [] ((os.take (i + 1)).flatMap f)) tru)), fun H' c => ⟨os.length - (i + 1), by omega, rfl, hlt, c⟩, fun x H3 y => ?_⟩
    obtain ⟨rfl, hx⟩ := w.yields i H2 x H3 hlt (stp c1) y
    obtain ⟨o, ho, rfl⟩ := map_str_at hx
    have hm : o ∈ os := List.mem_of_getElem? ho
    refine ⟨hw _, ?_⟩
    unfold tYes
    dsimp only
    rw [if_pos rfl]
    refine hi o hm H3 ((e.trans e1).trans c1) H3 (Ex.refl H3) _ fun p1 H4 hp1 e4 h4 => ⟨p1, rfl, ⟨_, st_of h4⟩, ?_⟩
    have hpD : p1 ≠ D := fun z => by rw [z, c2] at hp1; cases hp1
    have w1 := walk_tup (K := K) (a := p1) (xs := (f o).map V.str)
    rw [List.length_map] at w1
    have et : (os.take (i + 1)).flatMap f = (os.take i).flatMap f ++ f o := by
      rw [List.take_add_one, ho, List.flatMap_append]
      simp
    refine ⟨fun j m H' => m = (f o).length - j ∧ j ≤ (f o).length ∧ H' p1 = some (.tup ((f o).map V.str)) ∧ Ex H1 H' ∧ H' D = some (.dK (dO (insAll (insAll [] ((os.take i).flatMap f)) ((f o).take j)) tru)), ⟨(f o).length, by simp, Nat.zero_le _, h4, c1.trans e4, e4 _ _ c2⟩, ?_⟩
    rintro j m H5 ⟨rfl, hj', d0, d1, d2⟩
    by_cases hlj : j < (f o).length
    · refine .inr ⟨w1.goes j H5 hlj (st_of d0), fun H' => H' p1 = some (.tup ((f o).map V.str)) ∧ Ex H1 H' ∧ H' D = some (.dK (dO (insAll (insAll [] ((os.take i).flatMap f)) ((f o).take (j + 1))) tru)), fun H' c => ⟨(f o).length - (j + 1), by omega, rfl, hlj, c⟩, fun x1 H6 y1 => ?_⟩
      obtain ⟨rfl, hx1⟩ := w1.yields j H5 x1 H6 hlj (st_of d0) y1
      obtain ⟨r, hr', rfl⟩ := map_str_at hx1
      refine ⟨hw1 _ _, ?_⟩
      dsimp only
      rw [if_pos rfl]
      refine ⟨.str r, hr _ _, _, Sum.inr r, rfl, d2, ?_, ?_, ?_, ?_⟩
      · rw [dO_len]
        have l1 := insAll_len ((f o).take j) (insAll [] ((os.take i).flatMap f))
        have l2 := insAll_len ((os.take i).flatMap f) []
        have l3 := hz i hi'
        have l4 := hf o hm
        have l5 : ((f o).take j).length ≤ (f o).length := by rw [List.length_take]; omega
        refine sz_lt ?_
        rw [List.length_nil] at l2
        omega
      · rw [upd_ne hpD]
        exact d0
      · exact Ex.mut d1 hD
      · rw [upd_same, putK_tru, List.take_add_one, hr', insAll_app]
        rfl
    · have ej : j = (f o).length := by omega
      subst ej
      rw [List.take_length, ← insAll_app, ← et] at d2
      exact .inl ⟨w1.stops H5 (st_of d0), d1, d2⟩
  · have ei : i = os.length := by omega
    subst ei
    rw [List.take_length] at c2
    exact .inl ⟨w.stops H2 (stp c1), q D H2 (fresh_back e1 hD) (e1.trans c1) c2⟩⟩
end
end K29
set_option Elab.async false
set_option linter.all false
set_option maxRecDepth 100000
set_option maxHeartbeats 4000000
/-! closure: its walk. -/
namespace K29
open PySem PySem.Spec PyProof.Rows L2 Evl
/-! ### locks -/
theorem ex_unlock {H H' : Hp} {d : Addr} {u : HO} {o : Obj} (h : H d = some u) (e : Ex (upd H d (.frz o u)) H') : H' d = some (.frz o u) ∧ Ex H (upd H' d u) := by
  refine ⟨e _ _ upd_same, fun a x hx => ?_⟩
  by_cases z : a = d
  · subst z
    rw [upd_same, ← hx, h]
  · rw [upd_ne z]
    exact e _ _ (by rw [upd_ne z]; exact hx)
/-- what the walk of closure holds -/
structure CI (rows : List Str) (nd : Str → List Str) (H : Hp) (q fd : Addr) (oq : HO) (ks : List Str) (H' : Hp) : Prop where
  ex : Ex H H'
  hq : H' q = some oq
  f : ∃ (bl : Str → List Str) (ad : Str → Addr), H' fd = some (.dK (dO ks fun r => .ref (ad r))) ∧ (∀ r ∈ ks, H' (ad r) = some (.dK (dO (bl r) tru)) ∧ (bl r).Nodup ∧ ad r ≠ q ∧ ad r ≠ fd) ∧ ∀ r ∈ ks, ∀ p, p ∈ bl r ↔ Dep nd p r
  nod : ks.Nodup
  sub : ∀ r ∈ ks, r ∈ rows
section
variable {rows ks : List Str} {nd : Str → List Str} {H H1 H2 : Hp} {q fd : Addr} {oq oq' : HO}
theorem CI.mono (c : CI rows nd H q fd oq ks H1) (e : Ex H1 H2) : CI rows nd H q fd oq ks H2 := by
  obtain ⟨bl, ad, f1, f2, f3⟩ := c.f
  exact ⟨c.ex.trans e, e _ _ c.hq, ⟨bl, ad, e _ _ f1, fun r hr => ⟨e _ _ (f2 r hr).1, (f2 r hr).2⟩, f3⟩, c.nod, c.sub⟩
theorem CI.swap (c : CI rows nd H q fd oq ks H1) (hq : H q = none) (ne : fd ≠ q) : CI rows nd H q fd oq' ks (upd H1 q oq') := by
  obtain ⟨bl, ad, f1, f2, f3⟩ := c.f
  exact ⟨Ex.mut c.ex hq, upd_same, ⟨bl, ad, by rw [upd_ne ne]; exact f1, fun r hr => ⟨by rw [upd_ne (f2 r hr).2.2.1]; exact (f2 r hr).1, (f2 r hr).2⟩, f3⟩, c.nod, c.sub⟩
theorem CI.put (c : CI rows nd H q fd oq ks H1) (hfd : H fd = none) (ne : fd ≠ q) {r : Str} {p : Addr} {bs : List Str} (hr : r ∈ rows) (hn : r ∉ ks) (hp : H1 p = some (.dK (dO bs tru))) (hnb : bs.Nodup) (pq : p ≠ q) (pf : p ≠ fd) (hb : ∀ s, s ∈ bs ↔ Dep nd s r) :
    ∃ kvs k, H1 fd = some (.dK kvs) ∧ V.str r = kV k ∧ kvs.length = ks.length ∧ CI rows nd H q fd oq (ks ++ [r]) (upd H1 fd (.dK (putK kvs k (.ref p)))) := by
  obtain ⟨bl, ad, f1, f2, f3⟩ := c.f
  refine ⟨_, Sum.inr r, f1, rfl, dO_len _ _, Ex.mut c.ex hfd, by rw [upd_ne (Ne.symm ne)]; exact c.hq, ⟨fun s => if s = r then bs else bl s, fun s => if s = r then p else ad s, ?_, fun s hs => ?_, fun s hs t => ?_⟩, nd_snoc c.nod hn, fun s hs => ?_⟩
  · rw [upd_same, putK_dO hn]
    congr 2
    refine dO_congr fun s _ => ?_
    by_cases e : s = r
    · dsimp only
      rw [if_pos e, if_pos e]
    · dsimp only
      rw [if_neg e, if_neg e]
  · by_cases e : s = r
    · dsimp only
      rw [if_pos e, if_pos e, upd_ne pf]
      exact ⟨hp, hnb, pq, pf⟩
    · have hs' : s ∈ ks := (List.mem_append.mp hs).resolve_right fun z => e (List.mem_singleton.mp z)
      obtain ⟨g1, g0, g2, g3⟩ := f2 s hs'
      dsimp only
      rw [if_neg e, if_neg e, upd_ne g3]
      exact ⟨g1, g0, g2, g3⟩
  · by_cases e : s = r
    · subst e
      dsimp only
      rw [if_pos rfl]
      exact hb t
    · have hs' : s ∈ ks := (List.mem_append.mp hs).resolve_right fun z => e (List.mem_singleton.mp z)
      dsimp only
      rw [if_neg e]
      exact f3 s hs' t
  · rcases List.mem_append.mp hs with z | z
    · exact c.sub s z
    · exact List.mem_singleton.mp z ▸ hr
/-- some row is ready -/
theorem ready {ks : List Str} (S : Sht rows nd) : ∀ (n : Nat) (ρ : Str → Nat), (∀ r ∈ rows, ∀ s ∈ nd r, ρ s < ρ r) → ∀ r ∈ rows, r ∉ ks → ρ r ≤ n → ∃ r ∈ rows, r ∉ ks ∧ ∀ s ∈ nd r, s ∈ ks
  | 0, ρ, hρ, r, hr, hn, h0 => ⟨r, hr, hn, fun s hs => by have := hρ r hr s hs; omega⟩
  | n + 1, ρ, hρ, r, hr, hn, h0 => by
    by_cases h : ∀ s ∈ nd r, s ∈ ks
    · exact ⟨r, hr, hn, h⟩
    · have h' : ∃ s, s ∈ nd r ∧ s ∉ ks := by
        refine Classical.byContradiction fun z => h fun s hs => ?_
        exact Classical.byContradiction fun y => z ⟨s, hs, y⟩
      obtain ⟨s, hs, hk⟩ := h'
      exact ready S n ρ hρ s (S.sub r hr s hs) hk (by have := hρ r hr s hs; omega)
theorem some_ready {ks : List Str} (S : Sht rows nd) (hl : ks.length < rows.length) : ∃ r ∈ rows, r ∉ ks ∧ ∀ s ∈ nd r, s ∈ ks := by
  obtain ⟨ρ, hρ⟩ := S.rk
  have h : ∃ r ∈ rows, r ∉ ks := by
    refine Classical.byContradiction fun z => ?_
    have := len_sub S.nod fun r hr => Classical.byContradiction fun y => z ⟨r, hr, y⟩
    omega
  obtain ⟨r, hr, hn⟩ := h
  exact ready S _ ρ hρ r hr hn (Nat.le_refl _)
theorem dep_iff {r p : Str} {os : List Str} {bl : Str → List Str} (ho : os = nd r) (hb : ∀ o ∈ os, ∀ p, p ∈ bl o ↔ Dep nd p o) : p ∈ insAll [] (os.flatMap fun o => o :: bl o) ↔ Dep nd p r := by
  subst ho
  rw [mem_insAll, List.mem_flatMap]
  constructor
  · rintro (h | ⟨o, h1, h2⟩)
    · cases h
    · rcases List.mem_cons.mp h2 with z | z
      · exact .base (z ▸ h1)
      · exact .step h1 ((hb o h1 p).mp z)
  · intro d
    refine .inr ?_
    cases d with
    | base h => exact ⟨p, h, List.mem_cons_self⟩
    | step h d => exact ⟨_, h, List.mem_cons_of_mem _ ((hb _ h p).mpr d)⟩
end
theorem insK_nd {ks : List Str} {x : Str} (h : ks.Nodup) : (insK ks x).Nodup := by
  unfold insK
  split
  · exact h
  · rename_i n
    exact nd_snoc h n
theorem insAll_nd : ∀ {l ks : List Str}, ks.Nodup → (insAll ks l).Nodup
  | [], _, h => h
  | x :: l, ks, h => insAll_nd (l := l) (insK_nd h)
theorem flat_len {f : Str → List Str} {m : Nat} : ∀ {l : List Str}, (∀ o ∈ l, (f o).length ≤ m) → (l.flatMap f).length ≤ l.length * m
  | [], _ => by simp
  | a :: l, h => by
    have h1 := flat_len (l := l) fun o ho => h o (List.mem_cons_of_mem _ ho)
    have h2 := h a List.mem_cons_self
    rw [List.flatMap_cons, List.length_append, List.length_cons, Nat.succ_mul]
    omega
theorem sub_all {ks rows : List Str} (hn : ks.Nodup) (hs : ∀ r ∈ ks, r ∈ rows) (hl : rows.length ≤ ks.length) (r : Str) (hr : r ∈ rows) : r ∈ ks := by
  refine Classical.byContradiction fun h => ?_
  have := len_sub (l := r :: ks) (m := rows) (List.nodup_cons.mpr ⟨h, hn⟩) fun x hx => (List.mem_cons.mp hx).elim (fun e => e ▸ hr) fun e => hs x e
  rw [List.length_cons] at this
  omega
/-- how many rows a row depends on -/
theorem bl_len {rows : List Str} {nd : Str → List Str} (S : Sht rows nd) {bs : List Str} {r : Str} (hr : r ∈ rows) (hn : bs.Nodup) (hb : ∀ p ∈ bs, Dep nd p r) : bs.length ≤ 12 := Nat.le_trans (len_sub hn fun p hp => S.dep (hb p hp) hr) S.len
section
variable {K : PySem.W.Frag} {σ : L2.St} {H H' : Hp} {te ta tb td ty tv : TE} {x y z v : V} {D : Ends} {tz : TS}
theorem ev_lenD {p : Addr} {kvs : List (Key × V)} (ha : Ev ta σ H (.ref p)) (h : H p = some (.dK kvs)) : Ev (tCB (fun xs H Q => ∃ a kvs, xs = [V.ref a] ∧ H a = some (.dK kvs) ∧ Q (.int kvs.length) H) (tCons ta tNil)) σ H (.int (kvs.length : Int)) := fun H1 e Q q =>
  ha H1 e _ fun H2 e2 => ⟨p, kvs, rfl, (e.trans e2) _ _ h, q H2 e2⟩
end
theorem given_by {α : Type} (f : α → Bool) (g : α → V) (d : α) (xs : List α) : given xs.length (fun i => f (xs[i]?.getD d)) (fun i => g (xs[i]?.getD d)) = (xs.filter f).map g := by
  have hm : (List.range xs.length).map (fun i => xs[i]?.getD d) = xs := by
    refine List.ext_getElem (by simp) fun i h1 h2 => ?_
    simp [h2]
  unfold given
  conv => rhs; rw [← hm]
  rw [List.filter_map, List.map_map]
  rfl
section
variable {K : PySem.W.Frag} {σ : L2.St} {H H' : Hp} {te tl : TE} {tt : TT}
/-- a comprehension over a tuple of texts -/
theorem el_S {a : Addr} {xs : List Str} {j : Nat} {vs : List Nat} (f : Str → Bool) (g : Str → V) (h : Ev tl σ H (.ref a)) (hx : SqT K H a (xs.map V.str)) (hz : xs.length ≤ 40000) (hw : ∀ x, wipe ((wipe σ vs).set j (some x)) vs = wipe σ vs)
    (ht : ∀ x H1, Ex H H1 → x ∈ xs → EvT tt ((wipe σ vs).set j (some (.str x))) H1 (f x)) (he : ∀ x H1, Ex H H1 → x ∈ xs → f x = true → Ev te ((wipe σ vs).set j (some (.str x))) H1 (g x)) :
    EvL (tLc (iTup K tl) (gName j) tt te vs) σ H ((xs.filter f).map g) := by
  have wk := walk_tup (K := K) (a := a) (xs := xs.map V.str)
  rw [List.length_map] at wk
  rw [← given_by f g Str.empty xs]
  have at_ : ∀ i, i < xs.length → xs[i]?.getD Str.empty ∈ xs := fun i hi => by
    rw [List.getElem?_eq_getElem hi]
    exact List.getElem_mem hi
  refine el_lcN (fun i => f (xs[i]?.getD Str.empty)) (fun i => g (xs[i]?.getD Str.empty)) (fun i => .str (xs[i]?.getD Str.empty)) wk hz (fun H1 e R k => h H1 e _ fun H2 e2 => ⟨a, rfl, ⟨_, ex_t (e.trans e2) hx⟩, k H2 e2 (ex_t (e.trans e2) hx)⟩) (fun H1 H2 e h => ex_t e h)
    (fun i x H1 H2 hi _ y => ?_) hw (fun i H1 e hi _ => ht _ H1 e (at_ i hi)) fun i H1 e hi _ hf => he _ H1 e (at_ i hi) hf
  obtain ⟨rfl, e⟩ := y
  refine ⟨Ex.refl _, ?_⟩
  rw [List.getElem?_map, List.getElem?_eq_getElem hi] at e
  rw [List.getElem?_eq_getElem hi]
  exact (Option.some.inj e).symm
theorem ea_starD {p : Addr} {kvs : List (Key × V)} {ys : List V} {t : TA} (he : Ev te σ H (.ref p)) (hp : Rd H p (.dK kvs)) (hr : EvA t σ H ys) : EvA (tStarD te t) σ H (kvs.map (fun kv => kV kv.1) ++ ys) := fun H1 e Q q =>
  he H1 e _ fun H2 e2 => ⟨p, kvs, rfl, ex_rd (e.trans e2) hp, hr H2 (e.trans e2) _ fun H3 e3 => q H3 (e2.trans e3)⟩
theorem dO_keys (ks : List Str) (v : Str → V) : (dO ks v).map (fun kv => kV kv.1) = ks.map V.str := by
  unfold dO
  rw [List.map_map]
  rfl
end
section
variable {P : Program} {w : World} {K : PySem.W.Frag} {mg : Str → Option Value} {base : Heap}
theorem sc_closure : FnScope ["sheet", "needs", "found", "name", "others", "other", "row"] ["sheet"] (defScope s_closure) := ⟨rfl, rfl, rfl, by decide +kernel, rfl, by decide +kernel, by decide +kernel⟩
/-- the dict that closure gives -/
def Below (rows : List Str) (nd : Str → List Str) : V → Hp → Prop := fun v H2 => ∃ (d : Addr) (ks : List Str) (bl : Str → List Str), v = .ref d ∧ BlAt H2 d ks bl ∧ (∀ r, r ∈ ks ↔ r ∈ rows) ∧ ∀ r ∈ ks, ∀ p, p ∈ bl r ↔ Dep nd p r
def spClosure (K : PySem.W.Frag) : Sp := fun vs H Q _ => ∃ (a : Addr) (rows : List Str) (nd : Str → List Str), vs = [.ref a] ∧ ShAt (cS K) H a rows nd ∧ Sht rows nd ∧ RetP (Below rows nd) H Q
abbrev nsC : List Str := ["sheet", "needs", "found", "name", "others", "other", "row"]
theorem ok_closure (T : Tx K mg) : FnR P w K mg base CX0 3 (He.ga K "closure") (spClosure K) := by
  have G1 := ok_Sheet_needs (P := P) (w := w) (base := base) T
  refine fnr T.d_closure sc_closure (fun _ _ _ _ _ _ us hl => match us, hl with | [_], _ => rfl) (fun vs H Q E h => ?_) (fun cdv A outer s H vs Q E hr h => ?_)
  · obtain ⟨a, rows, nd, rfl, _⟩ := h
    rfl
  · obtain ⟨a, rows, nd, rfl, Sa, D, k⟩ := h
    obtain ⟨dx, n, d, o, z, ad, h1, S, h3⟩ := Sa.ex_
    have hu := hu_of hr
    refine ⟨_, pss_cons (ps_asg (pe_get (E := E0) (pv 0) T.c_Sheet T.p_Sheet_needs G1 hr) (pg_name (i := 1) sc_closure.nd rfl (Or.inl rfl)))
      (pss_cons (ps_asg pe_dnewK (pg_name (i := 2) sc_closure.nd rfl (Or.inr rfl)))
      (pss_cons (ps_while PassesOwn.never (pt_cmpR op_lt (pe_callB call_lenD (by rfl) T.f_len PySem.boot_len (pa_cons (pv 2) pa_nil)) (pe_callB call_lenD (by rfl) T.f_len PySem.boot_len (pa_cons (pv 1) pa_nil)) (nomark _))
        (pss_one (ps_lock (ps_for PassesOwn.never rfl (pi_items (pv 1)) (pg_tup (n := 2) rfl (pgs_cons (pg_name (i := 3) sc_closure.nd rfl (Or.inl rfl)) (pgs_cons (pg_name (i := 4) sc_closure.nd rfl (Or.inl rfl)) pgs_nil)))
          (pss_one (ps_if (PW.pt (pw_and (pt_cmp (pc_dnotin hu (pv 3) (pv 2)) rfl) (pw_and1 (pt_val (pe_callB (cr_all rfl) (by rfl) T.f_all bi_all (pa_cons
              (pe_lc (own := [("other", 5)]) (g := gName 5) (by rfl) sc_closure.nd (pi_tup (pv 4)) (blkOk_by (own := [("other", 5)]) (N := nsC) (sc := defScope s_closure) (by decide +kernel))
                (fun _ _ _ _ _ => pg_name (i := 5) sc_closure.nd rfl (Or.inl rfl)) (fun _ _ _ _ _ => pts_nil) (fun _ _ _ _ _ => pe_cmp (pc_din hu (pv 5) (pv 2)) rfl)) pa_nil))))))
            (pss_one (ps_dput hu (pv 2) (pv 3) (pe_dc2 (own := [("other", 5), ("row", 6)]) (vs1 := [6]) (g := gName 5) (g1 := gName 6) (wi1 := iTup K (tTup (tCons (tVar 5) (tStarD (tDGet (tVar 2) (tVar 5)) tNil)))) (by rfl) sc_closure.nd (pi_tup (pv 4)) (blkOk_by (own := [("other", 5), ("row", 6)]) (N := nsC) (sc := defScope s_closure) (by decide +kernel)) (by decide)
                (fun _ _ _ _ _ => pg_name (i := 5) sc_closure.nd rfl (Or.inl rfl)) (fun _ _ _ _ _ => pts_nil)
                (fun _ _ _ _ _ => pi_tup (pe_tup (pa_cons (pv 5) (pa_starD rfl (pe_dget hu (pv 2) (pv 5) (fun _ _ => rfl)) pa_nil))))
                (fun _ _ _ _ _ => pg_name (i := 6) sc_closure.nd rfl (Or.inl rfl)) (fun _ _ _ _ _ => pts_nil) (fun _ _ _ _ _ => pv 6) (fun _ _ _ _ _ => pe_bl)) rfl)) pss_nil))))))
      (pss_one (ps_ret (pv 2))))), ?_⟩
    have ev1 := evp_get (C := cS K) (E := E0) (σ := [some (.ref a), none, none, none, none, none, none]) (H := H) (ta := tVar 0) (sp := spNeeds K) (R := fun v H2 => ∃ q, v = .ref q ∧ H q = none ∧ H2 q = some (.dK (dO rows fun r => .ref (ad r)))) (ev_var rfl) h1 fun H1 e Q k => ⟨a, dx, _, d, _, rfl, e _ _ h1, S.ld, e _ _ S.hd, fun p H2 hp e2 h2 => k _ _ e2 ⟨p, rfl, fresh_back e hp, h2⟩⟩
    refine q_asgP ev1 fun v H1 e1 r => ?_
    obtain ⟨q, rfl, hq0, hq⟩ := r
    intro fd hfd1
    have hfd : H fd = none := fresh_back e1 hfd1
    have fq : fd ≠ q := fun z => by rw [z, hq] at hfd1; cases hfd1
    have c0 : CI rows nd H q fd (.dK (dO rows fun r => .ref (ad r))) [] (upd H1 fd (.dK [])) := ⟨Ex.mut e1 hfd, by rw [upd_ne (Ne.symm fq)]; exact hq, ⟨fun _ => [], fun _ => 0, upd_same, (by intro _ h; cases h), (by intro _ h; cases h)⟩, .nil, (by intro _ h; cases h)⟩
    refine q_while (fun m σ' H' => ∃ ks, m = rows.length - ks.length ∧ CI rows nd H q fd (.dK (dO rows fun r => .ref (ad r))) ks H' ∧ ∃ x y o r, σ' = [some (.ref a), some (.ref q), some (.ref fd), x, y, o, r]) _ ⟨[], rfl, c0, none, none, none, none, rfl⟩ fun m σ' H' hW => ?_
    obtain ⟨ks, rfl, c, x, y, oo, rr, rfl⟩ := hW
    obtain ⟨bl, ad2, f1, f2, f3⟩ := c.f
    have l1 := ev_lenD (σ := [some (.ref a), some (.ref q), some (.ref fd), x, y, oo, rr]) (H := H') (ta := tVar 2) (ev_var rfl) f1
    have l2 := ev_lenD (σ := [some (.ref a), some (.ref q), some (.ref fd), x, y, oo, rr]) (H := H') (ta := tVar 1) (ev_var rfl) c.hq
    rw [dO_len] at l1 l2
    refine ⟨decide ((ks.length : Int) < (rows.length : Int)), et_test (ev_op l1 l2 rv_I0), fun hb H2 e2 => ?_, fun hb H2 e2 => ?_⟩
    · have hlt : ks.length < rows.length := by
        have := of_decide_eq_true hb
        omega
      refine ⟨fun σ' H' => ∃ ks', ks.length < ks'.length ∧ CI rows nd H q fd (.dK (dO rows fun r => .ref (ad r))) ks' H' ∧ ∃ x y o r, σ' = [some (.ref a), some (.ref q), some (.ref fd), x, y, o, r], fun σ2 H2 h => ?_, ?_⟩
      · obtain ⟨ks', hl, c', s'⟩ := h
        exact ⟨_, by omega, ks', rfl, c', s'⟩
      · have c2 := c.mono e2
        refine ⟨q, _, c2.hq, True.intro, fun od => ?_⟩
        have wk := walk_items (d := q) (o := od) (kvs := dO rows fun r => V.ref (ad r))
        rw [dO_len] at wk
        refine s_forW wk (fun i σ' H' => ∃ ks', CI rows nd H q fd (.frz od (.dK (dO rows fun r => .ref (ad r)))) ks' H' ∧ (∀ r ∈ ks, r ∈ ks') ∧ (∀ j, j < i → ∀ r, rows[j]? = some r → (∀ s ∈ nd r, s ∈ ks) → r ∈ ks') ∧ ∃ x y o r, σ' = [some (.ref a), some (.ref q), some (.ref fd), x, y, o, r])
          (fun R k' => ⟨.ref q, rfl, q, od, _, rfl, upd_same, k' _ (Ex.refl _) ⟨ks, c2.swap hq0 fq, fun _ h => h, fun j hj => absurd hj (Nat.not_lt_zero _), x, y, oo, rr, rfl⟩⟩) (fun i σ' H' _ p => ?_) (fun i v σ' H3 H4 hi p y => ?_) fun σ' H' p => ?_
        · obtain ⟨ks', c', _⟩ := p
          exact c'.hq
        · obtain ⟨ks', c', hs1, hs2, x, y', oo, rr, rfl⟩ := p
          obtain ⟨T', a1, b1, rfl, hT, rfl, ea, eb⟩ := y
          have hget : (dO rows fun r => V.ref (ad r))[i]? = some (Sum.inr rows[i], .ref (ad rows[i])) := by
            unfold dO
            rw [List.getElem?_map, List.getElem?_eq_getElem hi]
            rfl
          dsimp only at ea eb
          rw [hget] at ea eb
          cases ea
          cases eb
          have hrow : rows[i] ∈ rows := List.getElem_mem hi
          have hri : rows[i]? = some rows[i] := List.getElem?_eq_getElem hi
          generalize hre : rows[i] = r at *
          have e4 : Ex H3 (upd H3 T' (.tup [V.str r, V.ref (ad r)])) := Ex.new hT
          have c4 := c'.mono e4
          obtain ⟨bl', ad', g1, g2, g3⟩ := c4.f
          refine ⟨T', _, rfl, st_of upd_same, rfl, .str r, _, rfl, .ref (ad r), [], rfl, rfl, ?_⟩
          change tIfS _ _ _ _ [some (.ref a), some (.ref q), some (.ref fd), some (.str r), some (.ref (ad r)), oo, rr] (upd H3 T' (.tup [V.str r, V.ref (ad r)]))
          generalize upd H3 T' (.tup [V.str r, V.ref (ad r)]) = H4 at *
          have hot : H4 (ad r) = some (.tup ((nd r).map V.str)) := c4.ex _ _ (S.ha r hrow)
          have eall : Ev (tCB (rAll K) (tCons (tLc (iTup K (tVar 4)) (gName 5) tYes (tDIn (tVar 5) (tVar 2)) [5]) tNil)) [some (.ref a), some (.ref q), some (.ref fd), some (.str r), some (.ref (ad r)), oo, rr] H4 (.bl ((nd r).all fun s => decide (s ∈ ks'))) := by
            have el := el_S (σ := [some (.ref a), some (.ref q), some (.ref fd), some (.str r), some (.ref (ad r)), oo, rr]) (H := H4) (K := K) (tl := tVar 4) (tt := tYes) (te := tDIn (tVar 5) (tVar 2)) (j := 5) (vs := [5]) (fun _ => true) (fun s => .bl (decide (s ∈ ks'))) (ev_var rfl) (st_of hot) (by have := D.ndlen hrow; omega)
              (fun x => rfl) (fun x H1 e hx => fun H2 e2 Q k => k H2 (Ex.refl H2)) fun s H1 e hs _ => ev_din (ev_var rfl) (ev_var rfl) (.inl (e _ _ g1))
            rw [List.filter_eq_self.mpr (fun _ _ => rfl)] at el
            have e5 := ev_all (K := K) (bs := (nd r).map fun s => decide (s ∈ ks')) (by rw [List.map_map]; exact el)
            rw [List.all_map] at e5
            exact e5
          refine s_if (D := { nx := _, rt := _, bk := _, ct := _ }) (b := !decide (r ∈ ks') && (nd r).all fun s => decide (s ∈ ks')) (et_and (et_B (ev_dnin (ev_var rfl) (ev_var rfl) (.inl g1))) fun _ => et_B eall) (fun hb H5 e5 => ?_) fun hb H5 e5 => ?_
          · obtain ⟨b1, b2⟩ := Bool.and_eq_true_iff.mp hb
            have hn : r ∉ ks' := fun z => by rw [decide_eq_true z] at b1; cases b1
            have hall : ∀ s ∈ nd r, s ∈ ks' := fun s hs => of_decide_eq_true (List.all_eq_true.mp b2 s hs)
            have c5 := c4.mono e5
            have bz : ∀ s ∈ nd r, (s :: bl' s).length ≤ 13 := fun s hs => by
              have := bl_len D (c4.sub s (hall s hs)) (g2 s (hall s hs)).2.1 fun p hp => (g3 s (hall s hs) p).mp hp
              rw [List.length_cons]; omega
            have hnl := D.ndlen hrow
            have en := ed_dc2 (K := K) (σ := [some (.ref a), some (.ref q), some (.ref fd), some (.str r), some (.ref (ad r)), oo, rr]) (H := H5) (tl := tVar 4) (te := tTup (tCons (tVar 5) (tStarD (tDGet (tVar 2) (tVar 5)) tNil))) (os := nd r) (f := fun o => o :: bl' o) (jo := 5) (jr := 6) (vs := [5, 6]) (vs1 := [6])
              (ev_var rfl) (st_of (e5 _ _ hot)) (fun i hi => by
                have h1 := flat_len (f := fun o => o :: bl' o) (m := 13) (l := (nd r).take i) fun o ho => bz o (List.mem_of_mem_take ho)
                rw [List.length_take, Nat.min_eq_left hi] at h1
                refine Nat.le_trans h1 ?_
                omega) (fun o ho => Nat.le_trans (bz o ho) (by decide)) (fun x => rfl) (fun x y => rfl) (fun x y => rfl) fun o ho H6 e6 => by
                have e := ea_cons (σ := [some (.ref a), some (.ref q), some (.ref fd), some (.str r), some (.ref (ad r)), some (.str o), none]) (H := H6) (ta := tVar 5) (x := .str o) (ev_var rfl)
                  (ea_starD (te := tDGet (tVar 2) (tVar 5)) (ev_dget (ev_var rfl) (ev_var rfl) (.inl (e6 _ _ (e5 _ _ g1))) (hall o ho)) (.inl (e6 _ _ (e5 _ _ (g2 o (hall o ho)).1))) ea_nil)
                rw [List.append_nil, dO_keys] at e
                exact eu_tup e (by have := bz o ho; show (V.str o :: (bl' o).map V.str).length ≤ 100000; rw [List.length_cons, List.length_map]; rw [List.length_cons] at this; omega)
            refine en H5 (Ex.refl H5) _ fun p H6 hp e6 hp6 => ?_
            have c6 := c5.mono e6
            have pq : p ≠ q := fun z => by rw [z, c5.hq] at hp; cases hp
            have pf : p ≠ fd := fun z => by rw [z, e5 _ _ g1] at hp; cases hp
            obtain ⟨kvs, kk, z1, z2, z3, z4⟩ := c6.put hfd fq hrow hn hp6 (insAll_nd .nil) pq pf fun s => dep_iff rfl fun o ho t => g3 o (hall o ho) t
            have hkl := len_sub c4.nod c4.sub
            have hrl := D.len
            refine ⟨.ref fd, rfl, .str r, rfl, fd, _, rfl, .inl ⟨kvs, kk, z1, z2, sz_lt (by omega), rfl⟩, ks' ++ [r], z4, fun s hs => List.mem_append_left _ (hs1 s hs), fun j hj s hs hss => ?_, some (.str r), some (.ref (ad r)), oo, rr, rfl⟩
            rcases Nat.lt_succ_iff_lt_or_eq.mp hj with z | z
            · exact List.mem_append_left _ (hs2 j z s hs hss)
            · subst z
              rw [hri] at hs
              cases hs
              exact List.mem_append_right _ (List.mem_singleton.mpr rfl)
          · refine ⟨ks', c4.mono e5, hs1, fun j hj s hs hss => ?_, some (.str r), some (.ref (ad r)), oo, rr, rfl⟩
            rcases Nat.lt_succ_iff_lt_or_eq.mp hj with z | z
            · exact hs2 j z s hs hss
            · subst z
              rw [hri] at hs
              cases hs
              refine Classical.byContradiction fun hn => ?_
              rw [decide_eq_false hn, Bool.not_false, Bool.true_and] at hb
              have : ((nd r).all fun s => decide (s ∈ ks')) = true := List.all_eq_true.mpr fun s hs => decide_eq_true (hs1 s (hss s hs))
              rw [this] at hb
              cases hb
        · obtain ⟨ks', c', hs1, hs2, sh⟩ := p
          refine ⟨c'.hq, ks', ?_, c'.swap hq0 fq, sh⟩
          obtain ⟨r, hr1, hr2, hr3⟩ := some_ready (ks := ks) D hlt
          obtain ⟨j, hj, ej⟩ := List.mem_iff_getElem.mp hr1
          have hm := hs2 j hj r (by rw [List.getElem?_eq_getElem hj, ej]) hr3
          have := len_sub (l := r :: ks) (m := ks') (List.nodup_cons.mpr ⟨hr2, c.nod⟩) fun x hx => (List.mem_cons.mp hx).elim (fun e => e ▸ hm) fun e => hs1 x e
          rw [List.length_cons] at this
          omega
    · have hge : rows.length ≤ ks.length := by
        have := of_decide_eq_false hb
        omega
      refine s_ret (D := { nx := fun _ H' => Q .non H', rt := Q }) (ev_var rfl) fun H3 e3 => k _ H3 ((c.ex.trans e2).trans e3) ⟨fd, ks, bl, rfl, ⟨ad2, e3 _ _ (e2 _ _ f1), fun r hr => e3 _ _ (e2 _ _ (f2 r hr).1)⟩, fun r => ⟨c.sub r, fun hr => sub_all c.nod c.sub hge r hr⟩, f3⟩
end
end K29
set_option Elab.async false
set_option linter.all false
set_option maxRecDepth 100000
set_option maxHeartbeats 4000000
/-! Comprehensions over d.items(), dict comprehensions over any walk; unfinished, ring_in. -/
namespace K29
open PySem PySem.Spec PyProof.Rows L2 Evl
section
variable {X : Cx}
/-- name = {..} on one line, the name a local -/
theorem ps_setDc {i : Nat} {y : Str} {py : Pos} {kx vx tg iter : Expr} {ifs : List Expr} {scope : Scope} {own : List (Str × Nat)} {pos spos : Pos} {wi : TI} {g : TG} {tt : TT} {tk tv : TE} (hc : X.calm = true) (hN : X.N.Nodup) (hy : X.N[i]? = some y) (hyl : X.env.scope.names.lookup y = some .local)
    (hsw : swapsWith (.DictComp kx vx [⟨tg, iter, ifs, 0⟩] scope pos) (some (.Name y py)) spos.line X.env = pure true) (hi : PI X tg iter wi) (ok : BlkOk X.N X.env.scope scope own)
    (hg : ∀ (s : Shared) (H : Hp) (C : Addr) (cl : List (Str × Addr)) (fp : List Addr), PG (X.blk s H scope (compEnvC scope cl C X.env) fp) tg g) (ht : ∀ (s : Shared) (H : Hp) (C : Addr) (cl : List (Str × Addr)) (fp : List Addr), PTs (X.blk s H scope (compEnvC scope cl C X.env) fp) ifs tt)
    (hk : ∀ (s : Shared) (H : Hp) (C : Addr) (cl : List (Str × Addr)) (fp : List Addr), PE (X.blk s H scope (compEnvC scope cl C X.env) fp) kx tk) (he : ∀ (s : Shared) (H : Hp) (C : Addr) (cl : List (Str × Addr)) (fp : List Addr), PE (X.blk s H scope (compEnvC scope cl C X.env) fp) vx tv)
    (hs : ∀ x, foldedSetIterable iter X.env x = pure x := by intro _; rfl) : PS X (.Assign [.Name y py] (.DictComp kx vx [⟨tg, iter, ifs, 0⟩] scope pos) spos) (tAsg (tDc wi g tt tk tv (own.map (·.2))) (gName i)) := by
  refine ⟨fun pins s σ H D I h => ?_⟩
  rw [exec_Assign_Name_used _ _ _ _ hsw]
  refine wpAny_bind (wpAny_standAt (wpAny_bind ?_))
  show wpAny _ X.A (do let _ ← comprehension (.DictComp kx vx [⟨tg, iter, ifs, 0⟩] scope pos) scope X.env (firstIterPos [⟨tg, iter, ifs, 0⟩] pos) newDict false (eval iter X.env) (some (assign (.Name y py) X.env))) _ _ s
  have h' : tDc wi g tt tk tv (own.map (·.2)) σ H (fun x H1 => gName i x σ H1 D.nx) := h
  refine wpAny_bind (thn (dc_core (Qf := fun _ s' => SP X pins D .next s') hc hN I hi ok hg ht hk he hs h' fun L C s' m H' I' q hn f => ?_) fun _ s' hq => wpAny_pure (wpAny_pure hq))
  show wpAny _ _ (assign (.Name y py) X.env (.ref L)) _ _ _
  refine wpAny_assign_Name (store_ok2 (v := V.ref L) I' hN hy (.inl hyl) rfl (fun s2 I2 ⟨a, sb, ha⟩ => ?_) (.inr hyl))
  obtain ⟨f0, f1, f2, f3, f4, f5⟩ := f
  have haC : C ≠ a := ha.elim (fun z => z ▸ f1) fun z e => f4 y a z e.symm
  exact ⟨m, hn.sameBut sb haC, fun h3 sb3 => ⟨_, H', I2.turned (t' := s2.toks) (fun b o hb e => (sb3.2 b hb).trans e) f0 f1 f3 f4 f5, q⟩⟩
theorem sw_trueD {kx vx : Expr} {gs : List Comprehension} {scope : Scope} {pos py : Pos} {y : Str} {l : Nat} {env : Env} (hk : env.scope.kind = .function) (hy : env.scope.names.lookup y = some .local) (hl : (py.line == pos.line) = true)
    (ha : (scope.names.any fun (n, k) => n == y && (k == .local || k == .cell)) = false) : swapsWith (.DictComp kx vx gs scope pos) (some (.Name y py)) l env = pure true := by
  have ky : env.kindOf y = some .local := hy; have hb : env.blockKind = .function := by unfold Env.blockKind; rw [hk]; rfl
  unfold swapsWith; simp only [hb, ky, ha, Expr.pos, hl]; rfl
end
section
variable {J : It} {n : Nat} {G : Hp → Prop} {Y : Nat → Hp → V → Hp → Prop}
/-- a dict comprehension over any walk -/
theorem dc_it (w : Walk J n G Y) {g : TG} {tt : TT} {tk tv : TE} {vs : List Nat} {σ : L2.St} {H1 : Hp} {D : Addr} {Qd : Hp → Prop} (Pv : Nat → Hp → Prop) (h0 : Pv 0 (upd H1 D (.dK []))) (hG : ∀ i H, i ≤ n → Pv i H → G H)
    (hs : ∀ i x H H', i < n → Pv i H → Y i H x H' → g x (wipe σ vs) H' fun σ2 H2 => wipe σ2 vs = wipe σ vs ∧ tt σ2 H2 fun b H3 =>
      if b = true then tk σ2 H3 fun y H4 => tv σ2 H4 fun z H5 => ∃ kvs k, y = kV k ∧ H5 D = some (.dK kvs) ∧ kvs.length < sizeLine ∧ Pv (i + 1) (upd H5 D (.dK (putK kvs k z))) else Pv (i + 1) H3) (hd : ∀ H, Pv n H → Qd H) :
    ∃ W : Nat → Nat → Hp → Prop, (∃ m, W 0 m (upd H1 D (.dK []))) ∧ ∀ i m H, W i m H →
      (J.stop i H ∧ Qd H) ∨ (J.go i H ∧ ∃ Nx : Hp → Prop, (∀ H', Nx H' → ∃ m', m' < m ∧ W (i + 1) m' H') ∧ ∀ x H', J.yld i H x H' → g x (wipe σ vs) H' fun σ2 H2 => wipe σ2 vs = wipe σ vs ∧ tt σ2 H2 fun b H3 =>
        if b = true then tk σ2 H3 fun y H4 => tv σ2 H4 fun z H5 => ∃ kvs k, y = kV k ∧ H5 D = some (.dK kvs) ∧ kvs.length < sizeLine ∧ Nx (upd H5 D (.dK (putK kvs k z))) else Nx H3) := by
  refine ⟨fun i m H => m = n - i ∧ i ≤ n ∧ Pv i H, ⟨n, (Nat.sub_zero n).symm, Nat.zero_le _, h0⟩, fun i m H hw => ?_⟩
  obtain ⟨rfl, hi, p⟩ := hw
  have q := hG i H hi p
  rcases Nat.lt_or_ge i n with hlt | hge
  · exact .inr ⟨w.goes i H hlt q, Pv (i + 1), fun H' p' => ⟨n - (i + 1), by omega, rfl, hlt, p'⟩, fun x H' y => hs i x H H' hlt p (w.yields i H x H' hlt q y)⟩
  · obtain rfl : i = n := by omega
    exact .inl ⟨w.stops H q, hd H p⟩
end
/-- a new dict of these keys and values -/
def EvK (te : TE) (σ : L2.St) (H : Hp) (ks : List Str) (v : Str → V) : Prop := ∀ H1, Ex H H1 → ∀ Q : VK, (∀ p H2, H1 p = none → Ex H1 H2 → H2 p = some (.dK (dO ks v)) → Q (.ref p) H2) → te σ H1 Q
/-- what was known but at d -/
def ExB (d : Addr) (H H' : Hp) : Prop := ∀ a o, a ≠ d → H a = some o → H' a = some o
section
variable {K : PySem.W.Frag} {σ : L2.St} {H H' : Hp} {td te tv ta : TE} {tt : TT}
theorem lock_mono {H H1 : Hp} {d : Addr} {o : HO} (e : Ex H H1) : Ex (upd H d o) (upd H1 d o) := fun a x h => by
  by_cases z : a = d
  · subst z
    rw [upd_same] at h ⊢
    exact h
  · rw [upd_ne z] at h ⊢
    exact e a x h
abbrev gPair (K : PySem.W.Frag) (i j : Nat) : TG := gTup K 2 (gCons (gName i) (gCons (gName j) gNil))
theorem dO_at {ks : List Str} {v : Str → V} {i : Nat} (hi : i < ks.length) : (dO ks v)[i]? = some (Sum.inr ks[i], v ks[i]) := by
  unfold dO
  rw [List.getElem?_map, List.getElem?_eq_getElem hi]
  rfl
theorem ypair_at {ks : List Str} {v : Str → V} {i : Nat} {H H' : Hp} {x : V} (hi : i < ks.length) (y : YPair (fun i => (dO ks v)[i]?.map fun kv => kV kv.1) (fun i => (dO ks v)[i]?.map Prod.snd) i H x H') :
    ∃ T, x = .ref T ∧ H T = none ∧ H' = upd H T (.tup [.str ks[i], v ks[i]]) := by
  obtain ⟨T, a, b, rfl, h1, rfl, ea, eb⟩ := y
  dsimp only at ea eb
  rw [dO_at hi] at ea eb
  cases ea
  cases eb
  exact ⟨T, rfl, h1, rfl⟩
/-- [e for k, v in d.items() if ..], d read and not written -/
theorem el_items {d : Addr} {ks : List Str} {val : Str → V} {i j : Nat} {vs : List Nat} (f : Str → Bool) (g : Str → V) (h : ∀ H1, Ev td σ H1 (.ref d)) (hd : H d = some (.dK (dO ks val))) (hz : ks.length ≤ 40000) (hw : ∀ x y, wipe (((wipe σ vs).set i (some x)).set j (some y)) vs = wipe σ vs)
    (ht : ∀ od H1, Ex (upd H d (.frz od (.dK (dO ks val)))) H1 → ∀ x ∈ ks, EvT tt (((wipe σ vs).set i (some (.str x))).set j (some (val x))) H1 (f x))
    (he : ∀ od H1, Ex (upd H d (.frz od (.dK (dO ks val)))) H1 → ∀ x ∈ ks, f x = true → Ev te (((wipe σ vs).set i (some (.str x))).set j (some (val x))) H1 (g x)) :
    EvL (tLockE (tLc (iItems td) (gPair K i j) tt te vs)) σ H ((ks.filter f).map g) := fun H1 e Q q => by
  refine ⟨d, _, e _ _ hd, True.intro, fun od => ?_⟩
  have wk := walk_items (d := d) (o := od) (kvs := dO ks val)
  rw [dO_len] at wk
  have el := el_lcW (σ := σ) (H := upd H1 d (.frz od (.dK (dO ks val)))) (wi := iItems td) (g := gPair K i j) (tt := tt) (te := te) (vs := vs) (fun i => f (ks[i]?.getD Str.empty)) (fun i => g (ks[i]?.getD Str.empty)) wk hz
    (fun H2 e2 R k => h H2 H2 (Ex.refl H2) _ fun H3 e3 => ⟨d, od, _, rfl, e3 _ _ (e2 _ _ upd_same), k H3 e3 (e3 _ _ (e2 _ _ upd_same))⟩) (fun H2 H3 e h => e _ _ h) (fun n x H2 H3 e2 e3 hi hG y R k => ?_) fun n x H2 H3 hi _ y => ?_
  · rw [given_by f g Str.empty ks] at el
    refine el _ (Ex.refl _) _ fun p H2 hp e2 h2 => ?_
    have pd : p ≠ d := fun z => by rw [z, upd_same] at hp; cases hp
    obtain ⟨u1, u2⟩ := ex_unlock (e _ _ hd) e2
    exact ⟨u1, q p _ (by rw [upd_ne pd] at hp; exact hp) u2 (by rw [upd_ne pd]; exact h2)⟩
  · obtain ⟨T, rfl, hT, rfl⟩ := ypair_at hi y
    have e4 : Ex (upd H d (.frz od (.dK (dO ks val)))) (upd H2 T (.tup [.str ks[n], val ks[n]])) := (lock_mono e).trans (e2.trans e3)
    refine ⟨T, _, rfl, st_of upd_same, rfl, .str ks[n], _, rfl, val ks[n], [], rfl, rfl, ?_⟩
    have eg : ks[n]?.getD Str.empty = ks[n] := by rw [List.getElem?_eq_getElem hi]; rfl
    refine k _ _ e3 (hw _ _) ?_ fun hf => ?_
    · rw [eg]
      exact ht od _ e4 _ (List.getElem_mem hi)
    · rw [eg] at hf ⊢
      exact he od _ e4 _ (List.getElem_mem hi) hf
  · obtain ⟨T, rfl, hT, rfl⟩ := ypair_at hi y
    exact Ex.new hT
/-- {k: v for k, v in d.items() if ..} -/
theorem ed_items {d : Addr} {ks : List Str} {val : Str → V} {i j : Nat} {vs : List Nat} (f : Str → Bool) (hn : ks.Nodup) (h : ∀ H1, Ev td σ H1 (.ref d)) (hd : H d = some (.dK (dO ks val))) (hz : ks.length ≤ 40000) (hw : ∀ x y, wipe (((wipe σ vs).set i (some x)).set j (some y)) vs = wipe σ vs)
    (hi1 : ∀ x y, (((wipe σ vs).set i (some x)).set j (some y))[i]? = some (some x)) (hj1 : ∀ x y, (((wipe σ vs).set i (some x)).set j (some y))[j]? = some (some y))
    (ht : ∀ od H1, Ex (upd H d (.frz od (.dK (dO ks val)))) H1 → ∀ x ∈ ks, EvT tt (((wipe σ vs).set i (some (.str x))).set j (some (val x))) H1 (f x)) :
    EvK (tLockE (tDc (iItems td) (gPair K i j) tt (tVar i) (tVar j) vs)) σ H (ks.filter f) val := fun H1 e Q q => by
  refine ⟨d, _, e _ _ hd, True.intro, fun od => ?_⟩
  have wk := walk_items (d := d) (o := od) (kvs := dO ks val)
  rw [dO_len] at wk
  refine h _ _ (Ex.refl _) _ fun H2 e2 => ⟨d, od, _, rfl, e2 _ _ upd_same, fun D hD => ?_⟩
  have Dd : D ≠ d := fun z => by rw [z, e2 _ _ upd_same] at hD; cases hD
  refine dc_it wk (fun n H3 => Ex H2 H3 ∧ H3 D = some (.dK (dO ((ks.take n).filter f) val))) ⟨Ex.new hD, upd_same⟩ (fun n H3 _ p => p.1 _ _ (e2 _ _ upd_same)) (fun n x H3 H4 hi p y => ?_) fun H3 p => ?_
  · obtain ⟨T, rfl, hT, rfl⟩ := ypair_at hi y
    have hri : ks[n]? = some ks[n] := List.getElem?_eq_getElem hi
    have e4 := Ex.new (o := .tup [.str ks[n], val ks[n]]) hT
    refine ⟨T, _, rfl, st_of upd_same, rfl, .str ks[n], _, rfl, val ks[n], [], rfl, rfl, hw _ _, ?_⟩
    refine ht od _ ((lock_mono e).trans (e2.trans (p.1.trans e4))) _ (List.getElem_mem hi) _ (Ex.refl _) _ fun H5 e5 => ?_
    have tk : (ks.take (n + 1)).filter f = (ks.take n).filter f ++ (if f ks[n] = true then [ks[n]] else []) := by
      rw [List.take_add_one, hri, List.filter_append]
      congr 1
      show List.filter f [ks[n]] = _
      rw [List.filter_cons]
      rfl
    cases hf : f ks[n] with
    | true =>
      rw [if_pos rfl]
      refine ⟨_, hi1 _ _, _, hj1 _ _, _, Sum.inr ks[n], rfl, e5 _ _ (e4 _ _ p.2), ?_, ?_, ?_⟩
      · rw [dO_len]
        have := List.length_filter_le f (ks.take n)
        rw [List.length_take] at this
        exact sz_lt (by omega)
      · exact Ex.mut ((p.1.trans e4).trans e5) hD
      · rw [upd_same, tk, if_pos hf, putK_dO]
        · congr 2
          exact dO_congr fun r hr => by
            by_cases z : r = ks[n]
            · rw [if_pos z, z]
            · rw [if_neg z]
        · intro hm
          obtain ⟨m, hm1, hm2⟩ := List.mem_iff_getElem.mp (List.mem_filter.mp hm).1
          rw [List.getElem_take] at hm2
          rw [List.length_take] at hm1
          have := (List.getElem_inj hn).mp hm2
          omega
    | false =>
      rw [if_neg (by simp)]
      refine ⟨(p.1.trans e4).trans e5, ?_⟩
      rw [tk, if_neg (by rw [hf]; simp), List.append_nil]
      exact e5 _ _ (e4 _ _ p.2)
  · obtain ⟨p1, p2⟩ := p
    rw [List.take_length] at p2
    obtain ⟨u1, u2⟩ := ex_unlock (e _ _ hd) (e2.trans p1)
    have hD1 : H1 D = none := by
      have := fresh_back e2 hD
      rw [upd_ne Dd] at this
      exact this
    exact ⟨u1, q D _ hD1 u2 (by rw [upd_ne Dd]; exact p2)⟩
theorem q_asgK {i : Nat} {ks : List Str} {v : Str → V} {D : Ends} {tz : TS} (h : EvK te σ H ks v) (k : ∀ p H1, H p = none → Ex H H1 → H1 p = some (.dK (dO ks v)) → tz D (σ.set i (some (.ref p))) H1) : tSeq (tAsg te (gName i)) tz D σ H := h H (Ex.refl H) _ k
theorem s_asgK {i : Nat} {ks : List Str} {v : Str → V} {D : Ends} (h : EvK te σ H ks v) (k : ∀ p H1, H p = none → Ex H H1 → H1 p = some (.dK (dO ks v)) → D.nx (σ.set i (some (.ref p))) H1) : tAsg te (gName i) D σ H := h H (Ex.refl H) _ k
theorem ek_dict {d : Addr} {ks : List Str} {v : Str → V} (ha : Ev ta σ H (.ref d)) (h : Rd H d (.dK (dO ks v))) : EvK (tCB (fun xs H Q => ∃ (a : Addr) (kvs : List (Key × V)), xs = [.ref a] ∧ Rd H a (.dK kvs) ∧ ∀ p, H p = none → Q (.ref p) (upd H p (.dK kvs))) (tCons ta tNil)) σ H ks v := fun H1 e Q q =>
  ha H1 e _ fun H2 e2 => ⟨d, _, rfl, ex_rd (e.trans e2) h, fun p hp => q p _ (fresh_back e2 hp) (e2.trans (Ex.new hp)) upd_same⟩
end
end K29
set_option Elab.async false
set_option linter.all false
set_option maxRecDepth 100000
set_option maxHeartbeats 4000000
/-! unfinished, ring_in. -/
namespace K29
open PySem PySem.Spec PyProof.Rows L2 Evl
theorem inV_str (x : Str) (ys : List Str) : inV (.str x) (ys.map V.str) = decide (x ∈ ys) := by
  unfold inV
  rw [List.any_map]
  by_cases h : x ∈ ys
  · rw [decide_eq_true h]
    refine List.any_eq_true.mpr ⟨x, h, ?_⟩
    show (x == x) = true
    exact beq_self_eq_true x
  · rw [decide_eq_false h]
    refine Bool.eq_false_iff.mpr fun z => ?_
    obtain ⟨y, hy, e⟩ := List.any_eq_true.mp z
    have e' : (y == x) = true := e
    exact h ((by simpa using e' : y = x) ▸ hy)
section
variable {K : PySem.W.Frag} {σ : L2.St} {H H' : Hp} {td te tv ta tb : TE}
theorem ev_notInL {p : Addr} {x : Str} {ys : List Str} (ha : Ev ta σ H (.str x)) (hb : Ev tb σ H (.ref p)) (h : SqL K H p (ys.map V.str)) : Ev (tOp (rIn K true) ta tb) σ H (.bl (!decide (x ∈ ys))) := by
  have e := ev_op ha hb (rv_niL h rfl (flat_strs ys))
  rw [inV_str] at e
  exact e
theorem ev_inL {p : Addr} {x : Str} {ys : List Str} (ha : Ev ta σ H (.str x)) (hb : Ev tb σ H (.ref p)) (h : SqL K H p (ys.map V.str)) : Ev (tOp (rIn K false) ta tb) σ H (.bl (decide (x ∈ ys))) := by
  have e := ev_op ha hb (rv_isL h rfl (flat_strs ys))
  rw [inV_str] at e
  exact e
theorem ev_inT {p : Addr} {x : Str} {ys : List Str} (ha : Ev ta σ H (.str x)) (hb : Ev tb σ H (.ref p)) (h : SqT K H p (ys.map V.str)) : Ev (tOp (rIn K false) ta tb) σ H (.bl (decide (x ∈ ys))) := by
  have e := ev_op ha hb (rv_isT h rfl (flat_strs ys))
  rw [inV_str] at e
  exact e
theorem ev_notInT {p : Addr} {x : Str} {ys : List Str} (ha : Ev ta σ H (.str x)) (hb : Ev tb σ H (.ref p)) (h : SqT K H p (ys.map V.str)) : Ev (tOp (rIn K true) ta tb) σ H (.bl (!decide (x ∈ ys))) := by
  have e := ev_op ha hb (rv_niT h rfl (flat_strs ys))
  rw [inV_str] at e
  exact e
/-- d stays when it is locked -/
theorem lock_other {d a : Addr} {o u : HO} {ob : Obj} (h : H a = some o) (ne : a ≠ d) : (upd H d (.frz ob u)) a = some o := by rw [upd_ne ne]; exact h
end
section
variable {P : Program} {w : World} {K : PySem.W.Frag} {mg : Str → Option Value} {base : Heap}
theorem sc_unfinished : FnScope ["needs", "left", "ready", "name", "others", "other"] ["needs"] (defScope s_unfinished) := ⟨rfl, rfl, rfl, by decide +kernel, rfl, by decide +kernel, by decide +kernel⟩
abbrev nsU : List Str := ["needs", "left", "ready", "name", "others", "other"]
/-- the needs by their rows, without a ring -/
structure NdAt (H : Hp) (d : Addr) (rows : List Str) (nd : Str → List Str) (ad : Str → Addr) : Prop where
  hd : H d = some (.dK (dO rows fun r => .ref (ad r)))
  ha : ∀ r ∈ rows, H (ad r) = some (.tup ((nd r).map V.str))
def spUnfinished : Sp := fun vs H Q _ => ∃ (d : Addr) (rows : List Str) (nd : Str → List Str) (ad : Str → Addr), vs = [.ref d] ∧ NdAt H d rows nd ad ∧ Sht rows nd ∧ RetP (fun v H2 => ∃ p, v = .ref p ∧ H2 p = some (.dK [])) H Q
/-- the rows none of whose needs is left -/
def rdy (nd : Str → List Str) (ls : List Str) : Str → Bool := fun r => !(nd r).any fun o => decide (o ∈ ls)
theorem ok_unfinished (T : Tx K mg) : FnR P w K mg base CX0 1 (He.ga K "unfinished") spUnfinished := by
  refine fnr T.d_unfinished sc_unfinished (fun _ _ _ _ _ _ us hl => match us, hl with | [_], _ => rfl) (fun vs H Q E h => ?_) (fun cdv A outer s H vs Q E hr h => ?_)
  · obtain ⟨d, rows, nd, ad, rfl, _⟩ := h
    rfl
  · obtain ⟨d, rows, nd, ad, rfl, S, D, k⟩ := h
    have hu := hu_of hr
    refine ⟨_, pss_cons (ps_asg (pe_callTy call_dictD (by rfl) T.f_dict cs_dict (pa_cons (pv 0) pa_nil)) (pg_name (i := 1) sc_unfinished.nd rfl (Or.inr rfl)))
      (pss_cons (ps_asg (pe_lock (pe_lc (own := [("name", 3), ("others", 4)]) (g := gPair K 3 4) (tt := tTest (tOp (rEqD K) (tVar 4) (tTup tNil))) (by rfl) sc_unfinished.nd (pi_items (pv 1)) (blkOk_by (own := [("name", 3), ("others", 4)]) (N := nsU) (sc := defScope s_unfinished) (by decide +kernel))
          (fun _ _ _ _ _ => pg_tup (n := 2) rfl (pgs_cons (pg_name (i := 3) sc_unfinished.nd rfl (Or.inl rfl)) (pgs_cons (pg_name (i := 4) sc_unfinished.nd rfl (Or.inl rfl)) pgs_nil)))
          (fun _ _ _ _ _ => pts_one (pt_cmpR (op_eqD hr.units) (pv 4) (pe_tup pa_nil) (nomark _))) (fun _ _ _ _ _ => pv 3))) (pg_name (i := 2) sc_unfinished.nd rfl (Or.inr rfl)))
      (pss_cons (ps_while PassesOwn.never (pt_cmpR (op_neD hr.units) (pv 2) (pe_lst pa_nil) (nomark _))
        (pss_cons (ps_asg (pe_lock (pe_dc (own := [("name", 3), ("others", 4)]) (g := gPair K 3 4) (tt := tTest (tOp (rIn K true) (tVar 3) (tVar 2))) (by rfl) sc_unfinished.nd (pi_items (pv 1)) (blkOk_by (own := [("name", 3), ("others", 4)]) (N := nsU) (sc := defScope s_unfinished) (by decide +kernel))
          (fun _ _ _ _ _ => pg_tup (n := 2) rfl (pgs_cons (pg_name (i := 3) sc_unfinished.nd rfl (Or.inl rfl)) (pgs_cons (pg_name (i := 4) sc_unfinished.nd rfl (Or.inl rfl)) pgs_nil)))
          (fun _ _ _ _ _ => pts_one (pt_cmpR op_notIn_seq (pv 3) (pv 2) rfl)) (fun _ _ _ _ _ => pv 3) (fun _ _ _ _ _ => pv 4))) (pg_name (i := 1) sc_unfinished.nd rfl (Or.inr rfl)))
        (pss_one (ps_asg (pe_lock (pe_lc (own := [("name", 3), ("others", 4)]) (g := gPair K 3 4) (tt := tNot (tB (tCB (rAny K) (tCons (tLc (iTup K (tVar 4)) (gName 5) tYes (tDIn (tVar 5) (tVar 1)) [5]) tNil)))) (by rfl) sc_unfinished.nd (pi_items (pv 1)) (blkOk_by (own := [("name", 3), ("others", 4)]) (N := nsU) (sc := defScope s_unfinished) (by decide +kernel))
          (fun _ _ _ _ _ => pg_tup (n := 2) rfl (pgs_cons (pg_name (i := 3) sc_unfinished.nd rfl (Or.inl rfl)) (pgs_cons (pg_name (i := 4) sc_unfinished.nd rfl (Or.inl rfl)) pgs_nil)))
          (fun _ _ _ _ _ => pts_one (pt_not (pt_val (pe_callB (cr_any rfl) (by rfl) T.f_any bi_any (pa_cons
            (pe_lc (own := [("other", 5)]) (g := gName 5) rfl sc_unfinished.nd (pi_tup (pv 4)) (blkOk_by (own := [("other", 5)]) (N := nsU) (by rfl))
              (fun _ _ _ _ _ => pg_name (i := 5) sc_unfinished.nd rfl (Or.inl rfl)) (fun _ _ _ _ _ => pts_nil) (fun _ _ _ _ _ => pe_cmp (pc_din hu (pv 5) (pv 1)) rfl)) pa_nil))))) (fun _ _ _ _ _ => pv 3))) (pg_name (i := 2) sc_unfinished.nd rfl (Or.inr rfl))))))
      (pss_one (ps_ret (pv 1))))), ?_⟩
    have fin : ∀ {ls : List Str}, (∀ r ∈ ls, r ∈ rows) → ls.filter (rdy nd ls) = [] → ls = [] := fun {ls} hs h0 => by
      obtain ⟨ρ, hρ⟩ := D.rk
      have go : ∀ n, ∀ r ∈ ls, ρ r ≤ n → False := by
        intro n
        induction n with
        | zero =>
          intro r hr h
          have : r ∈ ls.filter (rdy nd ls) := List.mem_filter.mpr ⟨hr, by
            unfold rdy
            rw [Bool.not_eq_true', List.any_eq_false]
            intro o ho
            have := hρ r (hs r hr) o ho
            omega⟩
          rw [h0] at this
          cases this
        | succ n ih =>
          intro r hr h
          have : r ∈ ls.filter (rdy nd ls) := List.mem_filter.mpr ⟨hr, by
            unfold rdy
            rw [Bool.not_eq_true', List.any_eq_false]
            intro o ho hd
            have := hρ r (hs r hr) o ho
            exact ih o (of_decide_eq_true hd) (by omega)⟩
          rw [h0] at this
          cases this
      cases ls with
      | nil => rfl
      | cons r l => exact (go _ r List.mem_cons_self (Nat.le_refl _)).elim
    have Sl : ∀ {ls : List Str}, (∀ r ∈ ls, r ∈ rows) → ls.Nodup → ls.length ≤ 12 := fun {ls} hs hn => Nat.le_trans (len_sub hn hs) D.len
    have okr : ∀ {ls : List Str}, (∀ r ∈ ls, r ∈ rows) → ∀ x ∈ ls, PyData.strOk x = true := fun {ls} hs x hx => nm_ok (D.nam x (hs x hx))
    refine q_asgK (ek_dict (ev_var rfl) (.inl S.hd)) fun l H1 hl e1 h1 => ?_
    have adl : ∀ {H2 : Hp} {l : Addr} {ks : List Str} {r : Str}, Ex H H2 → H2 l = some (.dK (dO ks fun r => .ref (ad r))) → r ∈ rows → ad r ≠ l := fun {H2 l ks r} e h hr z => by
      have := e _ _ (S.ha r hr)
      rw [z, h] at this
      cases this
    have e0 : EvL (tLockE (tLc (iItems (tVar 1)) (gPair K 3 4) (tTest (tOp (rEqD K) (tVar 4) (tTup tNil))) (tVar 3) [3, 4])) [some (.ref d), some (.ref l), none, none, none, none] H1 ((rows.filter (rdy nd rows)).map V.str) := by
      refine el_items (rdy nd rows) V.str (fun H1 => ev_var rfl) h1 (by have := D.len; omega) (fun x y => rfl) (fun od H2 e2 x hx => ?_) fun od H2 e2 x hx _ => ev_var rfl
      have ha2 : H2 (ad x) = some (.tup ((nd x).map V.str)) := e2 _ _ (lock_other (e1 _ _ (S.ha x hx)) (adl e1 h1 hx))
      refine et_test (ev_is (ev_eq0 (ev_dat (ev_var rfl) (.tup (st_of ha2) (dpAll_S _))) (shaped_S (okr fun o ho => D.sub x hx o ho))) ?_)
      congr 1
      unfold rdy
      cases hnx : nd x with
      | nil => rfl
      | cons o l =>
        have : o ∈ rows := D.sub x hx o (by rw [hnx]; exact List.mem_cons_self)
        simp [this]
    refine q_asgL e0 fun p H2 hp e2 h2 => ?_
    refine q_while (fun m σ' H' => ∃ ls l p y z x, m = ls.length ∧ (∀ r ∈ ls, r ∈ rows) ∧ ls.Nodup ∧ Ex H H' ∧ H' l = some (.dK (dO ls fun r => .ref (ad r))) ∧ H' p = some (.lst ((ls.filter (rdy nd ls)).map V.str)) ∧ σ' = [some (.ref d), some (.ref l), some (.ref p), x, y, z]) _ ⟨rows, l, p, none, none, none, rfl, fun _ h => h, D.nod, e1.trans e2, e2 _ _ h1, h2, rfl⟩ fun m σ' H' hW => ?_
    obtain ⟨ls, l, p, y, z, x, rfl, hs, hn, e, hl, hp, rfl⟩ := hW
    refine ⟨!(ls.filter (rdy nd ls)).isEmpty, et_test (ev_is (ev_ne0L (ev_dat (ev_var rfl) (.lst (sq_of hp) (dpAll_S _))) (shaped_SL (okr fun o ho => hs o (List.mem_filter.mp ho).1))) ?_), fun hb H3 e3 => ?_, fun hb H3 e3 => ?_⟩
    · rw [List.isEmpty_map]
    · refine ⟨fun σ' H' => ∃ ls' l p y z x, ls'.length < ls.length ∧ (∀ r ∈ ls', r ∈ rows) ∧ ls'.Nodup ∧ Ex H H' ∧ H' l = some (.dK (dO ls' fun r => .ref (ad r))) ∧ H' p = some (.lst ((ls'.filter (rdy nd ls')).map V.str)) ∧ σ' = [some (.ref d), some (.ref l), some (.ref p), x, y, z], fun σ2 H2 h => ?_, ?_⟩
      · obtain ⟨ls', l, p, y, z, x, hlt, r⟩ := h
        exact ⟨_, hlt, ls', l, p, y, z, x, rfl, r⟩
      · have hl3 := e3 _ _ hl
        have hp3 := e3 _ _ hp
        have e30 := e.trans e3
        have hpl : p ≠ l := fun z => by rw [z, hl] at hp; cases hp
        have hz := Sl hs hn
        refine q_asgK (ed_items (K := K) (i := 3) (j := 4) (vs := [3, 4]) (fun r => !decide (r ∈ ls.filter (rdy nd ls))) hn (fun H1 => ev_var rfl) hl3 (by omega) (fun x y => rfl) (fun x y => rfl) (fun x y => rfl) fun od H4 e4 x hx => et_test (ev_notInL (ev_var rfl) (ev_var rfl) (sq_of (e4 _ _ (lock_other hp3 hpl))))) fun l2 H4 hl2 e4 h4 => ?_
        have hs2 : ∀ r ∈ ls.filter (fun r => !decide (r ∈ ls.filter (rdy nd ls))), r ∈ rows := fun r hr => hs r (List.mem_filter.mp hr).1
        have hn2 : (ls.filter (fun r => !decide (r ∈ ls.filter (rdy nd ls)))).Nodup := List.Nodup.sublist List.filter_sublist hn
        have hlt : (ls.filter (fun r => !decide (r ∈ ls.filter (rdy nd ls)))).length < ls.length := by
          cases hf : ls.filter (rdy nd ls) with
          | nil => rw [hf] at hb; cases hb
          | cons r l' =>
            have hr : r ∈ ls.filter (rdy nd ls) := by rw [hf]; exact List.mem_cons_self
            refine List.length_filter_lt_length_iff_exists.mpr ⟨r, (List.mem_filter.mp hr).1, ?_⟩
            rw [decide_eq_true List.mem_cons_self]
            decide
        generalize ls.filter (fun r => !decide (r ∈ ls.filter (rdy nd ls))) = ls2 at *
        have hz2 := Sl hs2 hn2
        have e40 := e30.trans e4
        have er : EvL (tLockE (tLc (iItems (tVar 1)) (gPair K 3 4) (tNot (tB (tCB (rAny K) (tCons (tLc (iTup K (tVar 4)) (gName 5) tYes (tDIn (tVar 5) (tVar 1)) [5]) tNil)))) (tVar 3) [3, 4])) [some (.ref d), some (.ref l2), some (.ref p), x, y, z] H4 ((ls2.filter (rdy nd ls2)).map V.str) := by
          refine el_items (rdy nd ls2) V.str (fun H1 => ev_var rfl) h4 (by omega) (fun x y => rfl) (fun od H5 e5 r hr => ?_) fun od H5 e5 x hx _ => ev_var rfl
          have hr' := hs2 r hr
          have ha5 : H5 (ad r) = some (.tup ((nd r).map V.str)) := e5 _ _ (lock_other (e40 _ _ (S.ha r hr')) (adl e40 h4 hr'))
          have hl5 : H5 l2 = some (.frz od (.dK (dO ls2 fun r => .ref (ad r)))) := e5 _ _ upd_same
          have el := el_S (σ := [some (.ref d), some (.ref l2), some (.ref p), some (.str r), some (.ref (ad r)), z]) (H := H5) (K := K) (tl := tVar 4) (tt := tYes) (te := tDIn (tVar 5) (tVar 1)) (j := 5) (vs := [5]) (fun _ => true) (fun s => .bl (decide (s ∈ ls2))) (ev_var rfl) (st_of ha5) (by have := D.ndlen hr'; omega)
            (fun x => rfl) (fun x H1 e hx => fun H2 e2 Q k => k H2 (Ex.refl H2)) fun s H1 e hs _ => ev_din (ev_var rfl) (ev_var rfl) (.inr ⟨_, e _ _ hl5⟩)
          rw [List.filter_eq_self.mpr (fun _ _ => rfl)] at el
          have e6 := ev_any (K := K) (bs := (nd r).map fun s => decide (s ∈ ls2)) (by rw [List.map_map]; exact el)
          rw [List.any_map] at e6
          exact et_not (et_B e6)
        exact s_asgL (D := { nx := _, rt := _, bk := _, ct := _ }) er fun p2 H5 hp2 e5 h5 => ⟨ls2, l2, p2, y, z, x, hlt, hs2, hn2, e40.trans e5, e5 _ _ h4, h5, rfl⟩
    · have h0 : ls = [] := fin hs (by
        cases hf : ls.filter (rdy nd ls) with
        | nil => rfl
        | cons a b => rw [hf] at hb; cases hb)
      subst h0
      refine s_ret (D := { nx := fun _ H' => Q .non H', rt := Q }) (ev_var rfl) fun H4 e4 => k _ H4 ((e.trans e3).trans e4) ⟨l, rfl, e4 _ _ (e3 _ _ hl)⟩
/-! ### ring_in -/
theorem el_slN {K : PySem.W.Frag} {σ : L2.St} {H : Hp} {te : TE} {tl th : TO} {xs : List V} {lo hi : Option Int} (h : EvL te σ H xs) (h1 : EvO tl σ H lo) (h2 : EvO th σ H hi) : EvL (tSl (rSlL K) te tl th) σ H (cutV xs lo hi) := fun H1 e _ q =>
  h H1 e _ fun a H2 _ e2 ha => h1 H2 (e.trans e2) _ fun H3 e3 => h2 H3 ((e.trans e2).trans e3) _ fun H4 e4 => ⟨a, xs, rfl, sq_of (e4 _ _ (e3 _ _ ha)), fun p hp => q p _ (fresh_back ((e2.trans e3).trans e4) hp) (((e2.trans e3).trans e4).trans (Ex.new hp)) upd_same⟩
theorem sc_ring_in : FnScope ["needs", "left", "walk", "following"] ["needs"] (defScope s_ring_in) := ⟨rfl, rfl, rfl, by decide +kernel, rfl, by decide +kernel, by decide +kernel⟩
def spRingIn : Sp := fun vs H Q _ => ∃ (d : Addr) (rows : List Str) (nd : Str → List Str) (ad : Str → Addr), vs = [.ref d] ∧ NdAt H d rows nd ad ∧ Sht rows nd ∧ RetV .non H Q
theorem ok_ring_in (T : Tx K mg) : FnR P w K mg base CX0 2 (He.ga K "ring_in") spRingIn := by
  have G := ok_unfinished (P := P) (w := w) (base := base) T
  obtain ⟨fd, D1⟩ := T.d_unfinished
  refine fnr T.d_ring_in sc_ring_in (fun _ _ _ _ _ _ us hl => match us, hl with | [_], _ => rfl) (fun vs H Q E h => ?_) (fun cdv A outer s H vs Q E hr h => ?_)
  · obtain ⟨d, rows, nd, ad, rfl, _⟩ := h
    rfl
  · obtain ⟨d, rows, nd, ad, rfl, S, D, k⟩ := h
    refine ⟨_, pss_cons (ps_asg (pe_fn G hr (by rfl) T.g_unfinished D1.kp pass0 (pa_cons (pv 0) pa_nil)) (pg_name (i := 1) sc_ring_in.nd rfl (Or.inr rfl)))
      (pss_cons (ps_asg (pe_slice sl_list (pe_callTy (call_listD rfl) (by rfl) T.f_list cs_list (pa_cons (pv 1) pa_nil)) po_none (po_some pe_int)) (pg_name (i := 2) sc_ring_in.nd rfl (Or.inl rfl)))
      (pss_cons (ps_while PassesOwn.never (pt_cmpR (op_neD hr.units) (pv 2) (pe_lst pa_nil) (nomark _)) pss_dead)
      (pss_one (ps_ret pe_non)))), ?_⟩
    refine q_asgP (evp_fn (vs := [.ref d]) (ea_cons (ev_var rfl) ea_nil) fun H1 e Q k => ⟨d, rows, nd, ad, rfl, ⟨e _ _ S.hd, fun r hr => e _ _ (S.ha r hr)⟩, D, k⟩) fun u H1 e1 r => ?_
    obtain ⟨p, rfl, hp⟩ := r
    have el : EvL (tCB (fun xs H Q => ∃ (a : Addr) (kvs : List (Key × V)), xs = [.ref a] ∧ Rd H a (.dK kvs) ∧ ∀ p, H p = none → Q (.ref p) (upd H p (.lst (kvs.map fun kv => kV kv.1)))) (tCons (tVar 1) tNil)) [some (.ref d), some (.ref p), none, none] H1 [] := fun H2 e2 Q q =>
      ⟨.ref p, rfl, p, [], rfl, .inl (e2 _ _ hp), fun l hl => q l _ hl (Ex.new hl) upd_same⟩
    refine q_asgL (el_slN el eo_none (eo_some (i := 1) ev_c)) fun l H2 hl e2 h2 => ?_
    have h2' : H2 l = some (.lst []) := h2
    refine q_while (fun _ σ' H' => Ex H H' ∧ H' l = some (.lst []) ∧ σ' = [some (.ref d), some (.ref p), some (.ref l), none]) 0 ⟨e1.trans e2, h2', rfl⟩ fun m σ' H' hW => ?_
    obtain ⟨e, hl', rfl⟩ := hW
    refine ⟨false, et_test (ev_is (ev_ne0L (ds := []) (ev_dat (ev_var rfl) (.lst (sq_of hl') .nil)) shaped_0L) rfl), (fun hb => by cases hb), fun hb H3 e3 => ?_⟩
    exact s_ret (D := { nx := fun _ H' => Q .non H', rt := Q }) ev_c fun H4 e4 => k.go ((e.trans e3).trans e4)
end
end K29
set_option Elab.async false
set_option linter.all false
set_option maxRecDepth 100000
set_option maxHeartbeats 4000000
/-! first_wrong, are_needs, need_rows, need_needs. -/
namespace K29
open PySem PySem.Spec PyProof.Rows L2 Evl
section
variable {K : PySem.W.Frag} {σ : L2.St} {H H' : Hp} {te ta tb : TE} {x y z v : V}
/-- isinstance(x, (tuple, list)) -/
theorem ev_isTL {tv : Value} (hx : Ev ta σ H x) (ty : ∀ H1, Ex H H1 → TyX K H1 x tv) (e : PySem.W.kitAny K tv [.type "tuple", .type "list"] = some true) :
    Ev (tCB (rIsiT K) (tCons ta (tCons (tTup (tCons (tC (.ty "tuple")) (tCons (tC (.ty "list")) tNil))) tNil))) σ H (.bl true) := fun H1 e1 Q q =>
  hx H1 e1 _ fun H2 e2 => eu_tup (ea_cons ev_c (ea_cons ev_c ea_nil)) (by show 2 ≤ 100000; decide) H2 (e1.trans e2) _ fun p H3 hp e3 h3 =>
    ⟨x, p, _, tv, _, true, rfl, h3, .cons (.ty _) (.cons (.ty _) .nil), ty H3 ((e1.trans e2).trans e3), e, q H3 (e2.trans e3)⟩
theorem kit_tup : PySem.W.kitAny K (.type "tuple") [.type "tuple", .type "list"] = some true := kitAny_cons (kit_ty (b := "tuple") (r := true) (by decide +kernel)) (fun h => by cases h) fun _ => rfl
theorem kit_lst : PySem.W.kitAny K (.type "list") [.type "tuple", .type "list"] = some true := kitAny_cons (kit_ty (b := "tuple") (r := false) (by decide +kernel)) (fun _ => kitAny_cons (kit_ty (b := "list") (r := true) (by decide +kernel)) (fun h => by cases h) fun _ => rfl) (fun h => by cases h)
theorem ev_notN (h : Ev ta σ H x) : Ev (tNotN ta) σ H (.bl (!decide (x = .non))) := fun H1 e Q q => h H1 e _ fun H2 e2 => q H2 e2
theorem ev_isN (h : Ev ta σ H x) : Ev (tIsN ta) σ H (.bl (decide (x = .non))) := fun H1 e Q q => h H1 e _ fun H2 e2 => q H2 e2
/-- len(set(t)) -/
theorem ev_lenSet {l : Addr} {xs : List Str} (h : Ev ta σ H (.ref l)) (hl : SqT K H l (xs.map V.str)) (hn : xs.Nodup) (h6 : xs.length < 64) : Ev (tLenSetU K ta) σ H (.int (xs.length : Int)) := fun H1 e Q q =>
  h H1 e _ fun H2 e2 => ⟨l, xs, rfl, ex_t (e.trans e2) hl, hn, h6, q H2 e2⟩
end
theorem take_notin {xs : List Str} (hn : xs.Nodup) {i : Nat} {x : Str} (hx : xs[i]? = some x) : x ∉ xs.take i := fun h => by
  have := take_no hn hx
  rw [List.any_eq_false] at this
  exact this x h (by simp)
section
variable {P : Program} {w : World} {K : PySem.W.Frag} {mg : Str → Option Value} {base : Heap}
/-! ### first_wrong -/
theorem sc_first_wrong : FnScope ["rows", "index", "name"] ["rows"] (defScope s_first_wrong) := ⟨rfl, rfl, rfl, by decide +kernel, rfl, by decide +kernel, by decide +kernel⟩
/-- a tuple of rows -/
structure Rws (rows : List Str) : Prop where
  nod : rows.Nodup
  len : rows.length ≤ 12
  nam : ∀ r ∈ rows, IsName r
def spFirstWrong (K : PySem.W.Frag) : Sp := fun vs H Q _ => ∃ (t : Addr) (rows : List Str), vs = [.ref t] ∧ SqT K H t (rows.map V.str) ∧ Rws rows ∧ RetV .non H Q
theorem ok_first_wrong (T : Tx K mg) : FnR P w K mg base CX0 2 (He.ga K "first_wrong") (spFirstWrong K) := by
  have G := ok_is_name (P := P) (w := w) (base := base) T
  obtain ⟨fd, D⟩ := T.d_is_name
  obtain ⟨t1, g1⟩ := T.i_LIMIT
  refine fnr T.d_first_wrong sc_first_wrong (fun _ _ _ _ _ _ us hl => match us, hl with | [_], _ => rfl) (fun vs H Q E h => ?_) (fun cdv A outer s H vs Q E hr h => ?_)
  · obtain ⟨t, rows, rfl, _⟩ := h
    rfl
  · obtain ⟨t, rows, rfl, ht, R, k⟩ := h
    refine ⟨_, pss_cons (ps_for PassesOwn.never rfl (pi_enumT (by rfl) T.f_enumerate (pa_cons (pv 0) pa_nil)) (pg_tup (n := 2) rfl (pgs_cons (pg_name (i := 1) sc_first_wrong.nd rfl (Or.inl rfl)) (pgs_cons (pg_name (i := 2) sc_first_wrong.nd rfl (Or.inl rfl)) pgs_nil)))
      (pss_one (ps_if (PW.pt (pw_or (pt_cmpR op_eq (pv 1) (pe_glob (v := .int 60) (by rfl) g1 ⟨_, rfl⟩) (nomark _)) (pw_or (pt_not (pt_val (pe_fn G hr (by rfl) T.g_is_name D.kp pass0 (pa_cons (pv 2) pa_nil))))
        (pw_or1 (pt_cmpR op_in_seq (pv 2) (pe_slice sl_tup (pv 0) po_none (po_some (pv 1))) rfl))))) pss_dead pss_nil)))
      (pss_one (ps_ret pe_non)), ?_⟩
    have wk := walk_enumT (K := K) (a := t) (xs := rows.map V.str)
    rw [List.length_map] at wk
    refine q_forW wk (fun i σ' H' => Ex H H' ∧ ∃ x y, σ' = [some (.ref t), x, y]) (fun R k' => ⟨.ref t, rfl, t, _, rfl, ht, k' H (Ex.refl H) ⟨Ex.refl H, _, _, rfl⟩⟩) (fun i σ' H' _ p => ex_t p.1 ht) (fun i x σ' H1 H2 hi p y => ?_) fun σ' H' p => ?_
    · obtain ⟨e, x1, y1, rfl⟩ := p
      obtain ⟨T', a1, b1, rfl, hT, rfl, ea, eb⟩ := y
      cases ea
      dsimp only at eb
      obtain ⟨r, hr', rfl⟩ := map_str_at eb
      have hm : r ∈ rows := List.mem_of_getElem? hr'
      have e2 : Ex H (upd H1 T' (.tup [.int (i : Nat), .str r])) := e.trans (Ex.new hT)
      refine ⟨T', _, rfl, st_of upd_same, rfl, .int (i : Nat), _, rfl, .str r, [], rfl, rfl, ?_⟩
      refine s_if (D := { nx := fun σ' H' => Ex H H' ∧ ∃ x y, σ' = [some (.ref t), x, y], rt := _, bk := _, ct := _ }) (b := false) (et_is (et_or (a := false) (et_is (et_test (ev_eq (y := .int 60) (ev_var rfl) ev_c rfl)) ?_) fun _ => et_or (a := false) (et_is (et_not (et_B (b := true) (ev_fn (vs := [.str r]) (ea_cons (ev_var rfl) ea_nil) fun H4 e4 Q k' => ⟨r, rfl, R.nam r hm, k'⟩))) rfl) fun _ =>
        et_is (et_test (Evl.ev_inU (K := K) (x := .str r) (xs := (rows.map V.str).take i) (ev_var rfl) (eu_take (ev_var rfl) (ev_var rfl) (ex_t e2 ht) (by simpa using hi)) rfl ?_)) (b := false) ?_) rfl) (fun h => by cases h) fun _ H3 e3 => ⟨e2.trans e3, _, _, rfl⟩
      · refine decide_eq_false fun z => ?_
        injection z with z
        have := R.len
        omega
      · rw [← List.map_take]
        exact flat_strs _
      · rw [← List.map_take, inV_str]
        exact decide_eq_false (take_notin R.nod hr')
    · obtain ⟨e, x1, y1, rfl⟩ := p
      exact s_ret (D := { nx := fun _ H' => Q .non H', rt := Q }) ev_c fun H4 e4 => k.go (e.trans e4)
/-! ### are_needs -/
theorem sc_are_needs : FnScope ["rows", "value", "name"] ["rows", "value"] (defScope s_are_needs) := ⟨rfl, rfl, rfl, by decide +kernel, rfl, by decide +kernel, by decide +kernel⟩
def spAreNeeds (K : PySem.W.Frag) : Sp := fun vs H Q _ => ∃ (t p : Addr) (rows ns : List Str), vs = [.ref t, .ref p] ∧ SqT K H t (rows.map V.str) ∧ H p = some (.tup (ns.map V.str)) ∧ Rws rows ∧ ns.Nodup ∧ (∀ s ∈ ns, s ∈ rows) ∧ RetV (.bl true) H Q
theorem ok_are_needs (T : Tx K mg) : FnR P w K mg base CX0 2 (He.ga K "are_needs") (spAreNeeds K) := by
  have G := ok_is_name (P := P) (w := w) (base := base) T
  obtain ⟨fd, D⟩ := T.d_is_name
  refine fnr T.d_are_needs sc_are_needs (fun _ _ _ _ _ _ us hl => match us, hl with | [_, _], _ => rfl) (fun vs H Q E h => ?_) (fun cdv A outer s H vs Q E hr h => ?_)
  · obtain ⟨t, p, rows, ns, rfl, _⟩ := h
    rfl
  · obtain ⟨t, p, rows, ns, rfl, ht, hp, R, hn, hs, k⟩ := h
    have hl : ns.length ≤ 12 := Nat.le_trans (len_sub hn hs) R.len
    refine ⟨_, pss_cons (ps_if (PW.pt (pw_or (pt_not (pt_val (pe_callB call_isi (by rfl) T.f_isinstance bi_isinstance (pa_cons (pv 1) (pa_cons (pe_bltn (by rfl) T.f_tuple cs_tuple (v := .ty "tuple") rfl) pa_nil)))))
        (pw_or1 (pt_not (pt_val (pe_callB (cr_all rfl) (by rfl) T.f_all bi_all (pa_cons (pe_lc (own := [("name", 2)]) (g := gName 2) (te := tAndV (tFn spIsName E0 (tCons (tVar 2) tNil)) (tOp (rIn K false) (tVar 2) (tVar 0))) (by rfl) sc_are_needs.nd (pi_tup (pv 1))
          (blkOk_by (own := [("name", 2)]) (N := ["rows", "value", "name"]) (sc := defScope s_are_needs) (by decide +kernel)) (fun _ _ _ _ _ => pg_name (i := 2) sc_are_needs.nd rfl (Or.inl rfl)) (fun _ _ _ _ _ => pts_nil)
          (fun _ _ _ _ _ => pe_and (pe_fn G hr (by rfl) T.g_is_name D.kp pass0 (pa_cons (pv 2) pa_nil)) (pe_one (pe_cmpR op_in_seq (pv 2) (pv 0) rfl)))) pa_nil)))))))
        pss_dead pss_nil)
      (pss_one (ps_ret (pe_cmpR op_eq (pe_lenSetU rfl (by rfl) T.f_len (by rfl) T.f_set (pv 1)) (pe_callB call_len_seq (by rfl) T.f_len PySem.boot_len (pa_cons (pv 1) pa_nil)) (nomark _)))), ?_⟩
    have el := el_S (σ := [some (.ref t), some (.ref p), none]) (H := H) (K := K) (tl := tVar 1) (tt := tYes) (te := tAndV (tFn spIsName E0 (tCons (tVar 2) tNil)) (tOp (rIn K false) (tVar 2) (tVar 0))) (j := 2) (vs := [2]) (fun _ => true) (fun s => .bl true) (ev_var rfl) (st_of hp) (by omega)
      (fun x => rfl) (fun x H1 e hx => fun H2 e2 Q k => k H2 (Ex.refl H2)) fun s H1 e hs' _ => ev_is (ev_andV (a := true) (ev_fn (vs := [.str s]) (ea_cons (ev_var rfl) ea_nil) fun H4 e4 Q k' => ⟨s, rfl, R.nam s (hs s hs'), k'⟩) fun _ => ev_inT (ev_var rfl) (ev_var rfl) (ex_t e ht)) (by rw [decide_eq_true (hs s hs')]; rfl)
    rw [List.filter_eq_self.mpr (fun _ _ => rfl)] at el
    have e5 := ev_all (K := K) (bs := ns.map fun _ => true) (by rw [List.map_map]; exact el)
    refine q_when (b := false) (et_is (et_or (a := false) (et_is (et_not (et_B (b := true) (ev_isi (x := .ref p) (ev_var rfl) ev_c (.ty _) (fun H1 e => .base (.tup (e _ _ hp))) (kit_ty (by decide +kernel))))) rfl) fun _ => et_is (et_not (et_B e5)) (b := false) ?_) rfl) (fun h => by cases h) fun _ H1 e1 => ?_
    · rw [show ((ns.map fun _ => true).all id) = true from List.all_eq_true.mpr fun b hb => by obtain ⟨_, _, rfl⟩ := List.mem_map.mp hb; rfl]
      rfl
    · refine s_ret (v := .bl true) (ev_is (ev_eq (ev_lenSet (ev_var rfl) (st_of (e1 _ _ hp)) hn (by omega)) (ev_lenT (ev_var rfl) (st_of (e1 _ _ hp))) rfl) ?_) fun H2 e2 => k.go (e1.trans e2)
      rw [List.length_map, decide_eq_true rfl]
/-! ### need_rows, need_needs -/
theorem sc_need_rows : FnScope ["rows", "wrong"] ["rows"] (defScope s_need_rows) := ⟨rfl, rfl, rfl, by decide +kernel, rfl, by decide +kernel, by decide +kernel⟩
def spNeedRows (K : PySem.W.Frag) : Sp := fun vs H Q _ => ∃ (t : Addr) (rows : List Str), vs = [.ref t] ∧ Rd H t (.tup (rows.map V.str)) ∧ Rws rows ∧ RetV .non H Q
theorem ty_rd {H : Hp} {t : Addr} {xs : List V} (h : Rd H t (.tup xs)) : TyX K H (.ref t) (.type "tuple") := h.elim (fun h => .base (.tup h)) fun ⟨_, h⟩ => .fTuple h
theorem ok_need_rows (T : Tx K mg) : FnR P w K mg base CX0 3 (He.ga K "need_rows") (spNeedRows K) := by
  have G := ok_first_wrong (P := P) (w := w) (base := base) T
  obtain ⟨fd, D⟩ := T.d_first_wrong
  refine fnr T.d_need_rows sc_need_rows (fun _ _ _ _ _ _ us hl => match us, hl with | [_], _ => rfl) (fun vs H Q E h => ?_) (fun cdv A outer s H vs Q E hr h => ?_)
  · obtain ⟨t, rows, rfl, _⟩ := h
    rfl
  · obtain ⟨t, rows, rfl, ht, R, k⟩ := h
    refine ⟨_, pss_cons (ps_if (pt_not (pt_val (pe_callB call_isiT (by rfl) T.f_isinstance bi_isinstance (pa_cons (pv 0) (pa_cons (pe_tup (pa_cons (pe_bltn (by rfl) T.f_tuple cs_tuple (v := .ty "tuple") rfl) (pa_cons (pe_bltn (by rfl) T.f_list cs_list (v := .ty "list") rfl) pa_nil))) pa_nil))))) pss_dead pss_nil)
      (pss_cons (ps_asg (pe_fn G hr (by rfl) T.g_first_wrong D.kp pass0 (pa_cons (pv 0) pa_nil)) (pg_name (i := 1) sc_need_rows.nd rfl (Or.inl rfl)))
      (pss_one (ps_if (pt_cmp (pc_notN (pv 1)) rfl) pss_dead pss_nil))), ?_⟩
    refine q_when (b := false) (et_is (et_not (et_B (ev_isTL (ev_var rfl) (fun H1 e => ty_rd (ex_rd e ht)) kit_tup))) rfl) (fun h => by cases h) fun _ H1 e1 => ?_
    refine q_asg (ev_fn (vs := [.ref t]) (ea_cons (ev_var rfl) ea_nil) fun H4 e4 Q k' => ⟨t, rows, rfl, .inl (ex_rd (e1.trans e4) ht), R, k'⟩) fun H2 e2 => ?_
    exact s_when (D := { nx := fun _ H' => Q .non H', rt := Q }) (b := false) (et_is (et_B (ev_notN (ev_var rfl))) rfl) (fun h => by cases h) fun _ H3 e3 => k.go ((e1.trans e2).trans e3)
theorem sc_need_needs : FnScope ["rows", "needs", "name", "others"] ["rows", "needs"] (defScope s_need_needs) := ⟨rfl, rfl, rfl, by decide +kernel, rfl, by decide +kernel, by decide +kernel⟩
def spNeedNeeds (K : PySem.W.Frag) : Sp := fun vs H Q _ => ∃ (t d : Addr) (rows ks : List Str) (nd : Str → List Str) (ad : Str → Addr), vs = [.ref t, .ref d] ∧ SqT K H t (rows.map V.str) ∧ t ≠ d ∧ NdAt H d ks nd ad ∧ Rws rows ∧ (∀ r ∈ ks, r ∈ rows) ∧ ks.length ≤ 12 ∧ (∀ r ∈ ks, (nd r).Nodup ∧ ∀ s ∈ nd r, s ∈ rows) ∧ RetV .non H Q
theorem sq_lock {H : Hp} {t d : Addr} {xs : List V} {o : HO} (h : SqT K H t xs) (ne : t ≠ d) : SqT K (upd H d o) t xs := by
  rcases h with (h | ⟨ob, h⟩) | h
  · exact .inl (.inl (by rw [upd_ne ne]; exact h))
  · exact .inl (.inr ⟨ob, by rw [upd_ne ne]; exact h⟩)
  · exact .inr h
theorem ok_need_needs (T : Tx K mg) : FnR P w K mg base CX0 3 (He.ga K "need_needs") (spNeedNeeds K) := by
  have G := ok_are_needs (P := P) (w := w) (base := base) T
  obtain ⟨fd, D⟩ := T.d_are_needs
  refine fnr T.d_need_needs sc_need_needs (fun _ _ _ _ _ _ us hl => match us, hl with | [_, _], _ => rfl) (fun vs H Q E h => ?_) (fun cdv A outer s H vs Q E hr h => ?_)
  · obtain ⟨t, d, rows, ks, nd, ad, rfl, _⟩ := h
    rfl
  · obtain ⟨t, d, rows, ks, nd, ad, rfl, ht, td, N, R, hk, hkl, hnd, k⟩ := h
    refine ⟨_, pss_cons (ps_if (pt_not (pt_val (pe_callB call_isi (by rfl) T.f_isinstance bi_isinstance (pa_cons (pv 1) (pa_cons (pe_bltn (by rfl) T.f_dict cs_dict (v := .ty "dict") rfl) pa_nil))))) pss_dead pss_nil)
      (pss_one (ps_lock (ps_for PassesOwn.never rfl (pi_items (pv 1)) (pg_tup (n := 2) rfl (pgs_cons (pg_name (i := 2) sc_need_needs.nd rfl (Or.inl rfl)) (pgs_cons (pg_name (i := 3) sc_need_needs.nd rfl (Or.inl rfl)) pgs_nil)))
        (pss_one (ps_if (PW.pt (pw_or (pt_cmpR op_notIn_seq (pv 2) (pv 0) rfl) (pw_or1 (pt_not (pt_val (pe_fn G hr (by rfl) T.g_are_needs D.kp pass0 (pa_cons (pv 0) (pa_cons (pv 3) pa_nil)))))))) pss_dead pss_nil))))), ?_⟩
    refine q_when (b := false) (et_is (et_not (et_B (b := true) (ev_isi (x := .ref d) (ev_var rfl) ev_c (.ty _) (fun H1 e => .base (.dK (e _ _ N.hd))) (kit_ty (by decide +kernel))))) rfl) (fun h => by cases h) fun _ H1 e1 => ?_
    refine ⟨d, _, e1 _ _ N.hd, True.intro, fun od => ?_⟩
    have wk := walk_items (d := d) (o := od) (kvs := dO ks fun r => V.ref (ad r))
    rw [dO_len] at wk
    have adn : ∀ r ∈ ks, ad r ≠ d := fun r hr z => by
      have := N.ha r hr
      rw [z, N.hd] at this
      cases this
    refine s_forW wk (fun i σ' H' => Ex (upd H1 d (.frz od (.dK (dO ks fun r => V.ref (ad r))))) H' ∧ ∃ x y, σ' = [some (.ref t), some (.ref d), x, y]) (fun R k' => ⟨.ref d, rfl, d, od, _, rfl, upd_same, k' _ (Ex.refl _) ⟨Ex.refl _, _, _, rfl⟩⟩) (fun i σ' H' _ p => p.1 _ _ upd_same) (fun i x σ' H2 H3 hi p y => ?_) fun σ' H' p => ?_
    · obtain ⟨e, x1, y1, rfl⟩ := p
      obtain ⟨T', rfl, hT, rfl⟩ := ypair_at hi y
      have hm : ks[i] ∈ ks := List.getElem_mem hi
      generalize ks[i] = r at *
      have e2 : Ex (upd H1 d (.frz od (.dK (dO ks fun r => V.ref (ad r))))) (upd H2 T' (.tup [.str r, .ref (ad r)])) := e.trans (Ex.new hT)
      have ht2 : SqT K (upd H2 T' (.tup [.str r, .ref (ad r)])) t (rows.map V.str) := ex_t e2 (sq_lock (ex_t e1 ht) td)
      have ha2 : (upd H2 T' (.tup [V.str r, .ref (ad r)])) (ad r) = some (.tup ((nd r).map V.str)) := e2 _ _ (lock_other (e1 _ _ (N.ha r hm)) (adn r hm))
      refine ⟨T', _, rfl, st_of upd_same, rfl, .str r, _, rfl, .ref (ad r), [], rfl, rfl, ?_⟩
      refine s_if (D := { nx := fun σ' H' => Ex _ H' ∧ ∃ x y, σ' = [some (.ref t), some (.ref d), x, y], rt := _, bk := _, ct := _ }) (b := false) (et_is (et_or (a := false) (et_is (et_test (ev_notInT (ev_var rfl) (ev_var rfl) ht2)) ?_) fun _ => et_is (et_not (et_B (b := true) (ev_fn (vs := [.ref t, .ref (ad r)]) (ea_cons (ev_var rfl) (ea_cons (ev_var rfl) ea_nil)) fun H4 e4 Q k' => ⟨t, ad r, rows, nd r, rfl, ex_t e4 ht2, e4 _ _ ha2, R, (hnd r hm).1, (hnd r hm).2, k'⟩))) (b := false) rfl) rfl) (fun h => by cases h) fun _ H3 e3 => ⟨e2.trans e3, _, _, rfl⟩
      rw [decide_eq_true (hk r hm)]
      rfl
    · obtain ⟨u1, u2⟩ := ex_unlock (e1 _ _ N.hd) p.1
      exact ⟨u1, k.go (e1.trans u2)⟩
end
end K29
set_option Elab.async false
set_option linter.all false
set_option maxRecDepth 100000
set_option maxHeartbeats 4000000
/-! Sheet.fill. -/
namespace K29
open PySem PySem.Spec PyProof.Rows L2 Evl
theorem ExB.refl {a : Addr} (H : Hp) : ExB a H H := fun _ _ _ h => h
theorem ExB.trans {a : Addr} {H H1 H2 : Hp} (x : ExB a H H1) (y : ExB a H1 H2) : ExB a H H2 := fun b o n h => y b o n (x b o n h)
theorem ExB.ex {a : Addr} {H H1 : Hp} (e : Ex H H1) : ExB a H H1 := fun b o _ h => e b o h
theorem ExB.upd {a : Addr} {H : Hp} {o : HO} : ExB a H (upd H a o) := fun b u n h => by rw [upd_ne n]; exact h
theorem ExB.fresh {a : Addr} {H H1 : Hp} (e : ExB a H H1) (h : H a = none) : Ex H H1 := fun b o hb => e b o (fun z => by rw [z, h] at hb; cases hb) hb
/-- the needs of a row -/
def nrF (ks : List Str) (nd : Str → List Str) (r : Str) : List Str := if r ∈ ks then nd r else []
theorem Sht.perm {rows : List Str} {nd nd' : Str → List Str} (S : Sht rows nd) (h : ∀ r ∈ rows, (nd' r).Perm (nd r)) : Sht rows nd' :=
  ⟨S.nod, S.len, S.nam, fun r hr s hs => S.sub r hr s ((h r hr).mem_iff.mp hs), fun r hr => (h r hr).nodup_iff.mpr (S.ndn r hr), by
    obtain ⟨ρ, hρ⟩ := S.rk
    exact ⟨ρ, fun r hr s hs => hρ r hr s ((h r hr).mem_iff.mp hs)⟩⟩
/-- a new dict from rows to tuples of the rows that they need, in some order -/
def EvND (te : TE) (σ : L2.St) (H : Hp) (rows : List Str) (nr : Str → List Str) : Prop := ∀ H1, Ex H H1 → ∀ Q : VK, (∀ p H2 nd' ad, H1 p = none → Ex H1 H2 → NdAt H2 p rows nd' ad → (∀ r ∈ rows, (nd' r).Perm (nr r)) → Q (.ref p) H2) → te σ H1 Q
section
variable {K : PySem.W.Frag} {σ : L2.St} {H H' : Hp} {te tl tv ta tb td ty : TE} {x y z v : V}
/-- a tuple of these, or of the same in another order -/
def PermT (ns : List Str) : V → Hp → Prop := fun v H2 => ∃ (p : Addr) (ys : List Str), v = .ref p ∧ H2 p = some (.tup (ys.map V.str)) ∧ ys.Perm ns
theorem ed_needs {p : Addr} {rows : List Str} {nr : Str → List Str} {j : Nat} {vs : List Nat} (hn : rows.Nodup) (h : Ev tl σ H (.ref p)) (hp : SqT K H p (rows.map V.str)) (hz : rows.length ≤ 40000) (hw : ∀ x, wipe ((wipe σ vs).set j (some x)) vs = wipe σ vs) (hj : ∀ x, ((wipe σ vs).set j (some x))[j]? = some (some x))
    (he : ∀ x H1, Ex H H1 → x ∈ rows → EvP te ((wipe σ vs).set j (some (.str x))) H1 (fun v H2 => ∃ (q : Addr) (ys : List Str), v = .ref q ∧ H1 q = none ∧ H2 q = some (.tup (ys.map V.str)) ∧ ys.Perm (nr x))) :
    EvND (tDc (iTup K tl) (gName j) tYes (tVar j) te vs) σ H rows nr := fun H0 e Q q => h H0 e _ fun H1 e1 => ⟨p, rfl, ⟨_, ex_t (e.trans e1) hp⟩, fun D hD => by
  have wk := walk_tup (K := K) (a := p) (xs := rows.map V.str)
  rw [List.length_map] at wk
  refine dc_it wk (fun i H' => Ex H1 H' ∧ ∃ (nd' : Str → List Str) (ad : Str → Addr), H' D = some (.dK (dO (rows.take i) fun r => .ref (ad r))) ∧ ∀ r ∈ rows.take i, H' (ad r) = some (.tup ((nd' r).map V.str)) ∧ (nd' r).Perm (nr r) ∧ ad r ≠ D)
    ⟨Ex.new hD, fun _ => [], fun _ => 0, upd_same, fun r hr => by cases hr⟩ (fun i H' _ p => ex_t ((e.trans e1).trans p.1) hp) (fun i x H2 H3 hi p y => ?_) fun H2 p => ?_
  · obtain ⟨e2, nd', ad, h1, h2⟩ := p
    obtain ⟨rfl, hx⟩ := y
    obtain ⟨r, hr, rfl⟩ := map_str_at hx
    have hm : r ∈ rows := List.mem_of_getElem? hr
    refine ⟨hw _, ?_⟩
    unfold tYes
    dsimp only
    rw [if_pos rfl]
    refine ⟨.str r, hj _, ?_⟩
    refine he r H3 ((e.trans e1).trans e2) hm H3 (Ex.refl _) _ fun v H4 e4 hv => ?_
    obtain ⟨q', ys, rfl, hq0, hq, hys⟩ := hv
    have qD : q' ≠ D := fun z => by rw [z, h1] at hq0; cases hq0
    have hnr : r ∉ rows.take i := take_notin hn hr
    refine ⟨_, Sum.inr r, rfl, e4 _ _ h1, by rw [dO_len, List.length_take]; exact sz_lt (by omega), Ex.mut (e2.trans e4) hD, fun s => if s = r then ys else nd' s, fun s => if s = r then q' else ad s, ?_, fun s hs => ?_⟩
    · rw [upd_same, putK_dO hnr, List.take_add_one, hr]
      congr 2
      refine dO_congr fun s _ => ?_
      by_cases z : s = r
      · dsimp only
        rw [if_pos z, if_pos z]
      · dsimp only
        rw [if_neg z, if_neg z]
    · by_cases z : s = r
      · dsimp only
        rw [if_pos z, if_pos z, upd_ne qD]
        exact ⟨hq, z ▸ hys, qD⟩
      · rw [List.take_add_one, hr] at hs
        have hs' : s ∈ rows.take i := (List.mem_append.mp hs).resolve_right fun y => z (by simpa using y)
        obtain ⟨a1, a2, a3⟩ := h2 s hs'
        dsimp only
        rw [if_neg z, if_neg z, upd_ne a3]
        exact ⟨e4 _ _ a1, a2, a3⟩
  · obtain ⟨e2, nd', ad, h1, h2⟩ := p
    rw [List.take_length] at h1 h2
    exact q D H2 nd' ad (fresh_back e1 hD) (e1.trans e2) ⟨h1, fun r hr => (h2 r hr).1⟩ fun r hr => (h2 r hr).2.1⟩
/-- {name: index for index, name in enumerate(t)} -/
theorem ed_enum {p : Addr} {rows : List Str} {i j : Nat} {vs : List Nat} (hn : rows.Nodup) (h : Ev tl σ H (.ref p)) (hp : SqT K H p (rows.map V.str)) (hz : rows.length ≤ 40000) (hw : ∀ x y, wipe (((wipe σ vs).set i (some x)).set j (some y)) vs = wipe σ vs)
    (hi1 : ∀ x y, (((wipe σ vs).set i (some x)).set j (some y))[i]? = some (some x)) (hj1 : ∀ x y, (((wipe σ vs).set i (some x)).set j (some y))[j]? = some (some y)) :
    EvK (tDc (iEnumT K (tCons tl tNil)) (gPair K i j) tYes (tVar j) (tVar i) vs) σ H rows (fun r => .int (ix rows r)) := fun H0 e Q q => by
  refine h H0 e _ fun H1 e1 => ⟨p, _, rfl, ex_t (e.trans e1) hp, fun D hD => ?_⟩
  have wk := walk_enumT (K := K) (a := p) (xs := rows.map V.str)
  rw [List.length_map] at wk
  refine dc_it wk (fun n H' => Ex H1 H' ∧ H' D = some (.dK (dO (rows.take n) fun r => .int (ix rows r)))) ⟨Ex.new hD, upd_same⟩ (fun n H' _ p => ex_t ((e.trans e1).trans p.1) hp) (fun n x H2 H3 hi p y => ?_) fun H2 p => ?_
  · obtain ⟨e2, h1⟩ := p
    obtain ⟨T', a1, b1, rfl, hT, rfl, ea, eb⟩ := y
    cases ea
    dsimp only at eb
    obtain ⟨r, hr, rfl⟩ := map_str_at eb
    have e4 := Ex.new (o := .tup [.int (n : Nat), .str r]) hT
    refine ⟨T', _, rfl, st_of upd_same, rfl, .int (n : Nat), _, rfl, .str r, [], rfl, rfl, hw _ _, ?_⟩
    unfold tYes
    dsimp only
    rw [if_pos rfl]
    refine ⟨.str r, hj1 _ _, .int (n : Nat), hi1 _ _, _, Sum.inr r, rfl, e4 _ _ h1, by rw [dO_len, List.length_take]; exact sz_lt (by omega), Ex.mut (e2.trans e4) hD, ?_⟩
    rw [upd_same, putK_dO (take_notin hn hr), List.take_add_one, hr]
    congr 2
    refine dO_congr fun s _ => ?_
    by_cases z : s = r
    · rw [if_pos z, z, ix_of hn hr]
    · rw [if_neg z]
  · obtain ⟨e2, h1⟩ := p
    rw [List.take_length] at h1
    exact q D H2 (fresh_back e1 hD) (e1.trans e2) h1
/-- tuple(sorted(t)) -/
theorem evp_sort {ns : List Str} (hl : ns.length < 64) (h : EvP ta σ H (fun v H2 => ∃ q, v = .ref q ∧ H2 q = some (.tup (ns.map V.str)))) :
    EvP (tCB (fun xs H Q => ∃ p ys, xs = [.ref p] ∧ ((SqL K H p ys ∧ ∀ l, H l = none → Q (.ref l) (upd H l (.tup ys))) ∨ (SqT K H p ys ∧ Q (.ref p) H))) (tCons (tCB (rSortU K) (tCons ta tNil)) tNil)) σ H
      (fun v H2 => ∃ (q : Addr) (ys : List Str), v = .ref q ∧ H q = none ∧ H2 q = some (.tup (ys.map V.str)) ∧ ys.Perm ns) := fun H1 e Q q =>
  h H1 e _ fun v H2 e2 hv => by
    obtain ⟨a, rfl, ha⟩ := hv
    refine ⟨a, ns, rfl, st_of ha, hl, fun ys p hys _ hp => ?_⟩
    refine ⟨p, _, rfl, .inl ⟨sq_of upd_same, fun l hl' => ?_⟩⟩
    have e3 := Ex.new (o := .lst (ys.map V.str)) hp
    exact q _ _ ((e2.trans e3).trans (Ex.new hl')) ⟨l, ys, rfl, fresh_back e (fresh_back (e2.trans e3) hl'), upd_same, hys⟩
/-- d.get(r, ()) -/
theorem evp_getE {d : Addr} {ks : List Str} {nd : Str → List Str} {ad : Str → Addr} {r : Str} (hd : Ev td σ H (.ref d)) (hy : Ev ty σ H (.str r)) (N : NdAt H d ks nd ad) : EvP (tDGet2 td ty (tTup tNil)) σ H (fun v H2 => ∃ q, v = .ref q ∧ H2 q = some (.tup ((nrF ks nd r).map V.str))) := fun H1 e Q q =>
  hd H1 e _ fun H2 e2 => ⟨d, rfl, .inl ⟨_, .inl ((e.trans e2) _ _ N.hd)⟩, hy H2 (e.trans e2) _ fun H3 e3 => eu_nil H3 ((e.trans e2).trans e3) _ fun p H4 _ e4 h4 => by
    have e04 := ((e.trans e2).trans e3).trans e4
    have hd4 := dget_s (r := r) (.inl (e04 _ _ N.hd))
    refine ⟨_, hd4, ?_⟩
    rw [valV_dO]
    by_cases hm : r ∈ ks
    · rw [if_pos hm]
      exact q _ H4 ((e2.trans e3).trans e4) ⟨ad r, rfl, by unfold nrF; rw [if_pos hm]; exact e04 _ _ (N.ha r hm)⟩
    · rw [if_neg hm]
      exact q _ H4 ((e2.trans e3).trans e4) ⟨p, rfl, by unfold nrF; rw [if_neg hm]; exact h4⟩⟩
end
theorem n_nd : ¬ ("names" : Str) = "direct" := by decide +kernel
theorem n_no : ¬ ("names" : Str) = "order" := by decide +kernel
theorem n_ns : ¬ ("names" : Str) = "shown" := by decide +kernel
theorem n_do : ¬ ("direct" : Str) = "order" := by decide +kernel
theorem n_ds : ¬ ("direct" : Str) = "shown" := by decide +kernel
theorem n_os : ¬ ("order" : Str) = "shown" := by decide +kernel
/-- a sheet's fields: none, or all four -/
def FsOk (fs : List (Str × V)) : Prop := fs = [] ∨ ∃ n d o z, fs = shF n d o z
theorem put4 {fs : List (Str × V)} (h : FsOk fs) (n d o : Addr) (z : Str) : putF "shown" (.str z) (putF "order" (.ref o) (putF "direct" (.ref d) (putF "names" (.ref n) fs))) = shF n d o z := by
  rcases h with rfl | ⟨n0, d0, o0, z0, rfl⟩
  · simp only [putF, if_neg n_nd, if_neg n_no, if_neg n_ns, if_neg n_do, if_neg n_ds, if_neg n_os, shF]
  · simp only [putF, if_neg n_nd, if_neg n_no, if_neg n_ns, if_neg n_do, if_neg n_ds, if_neg n_os, shF, if_true]
theorem FsOk.len {fs : List (Str × V)} (h : FsOk fs) : fs.length ≤ 4 := by
  rcases h with rfl | ⟨n0, d0, o0, z0, rfl⟩
  · exact Nat.zero_le _
  · exact Nat.le_refl _
theorem putF_len (f : Str) (v : V) : ∀ fs : List (Str × V), (putF f v fs).length ≤ fs.length + 1
  | [] => Nat.le_refl _
  | (g, x) :: r => by
    have ih := putF_len f v r
    unfold putF
    split
    · simp
    · simp only [List.length_cons]
      omega
end K29
set_option Elab.async false
set_option linter.all false
set_option maxRecDepth 100000
set_option maxHeartbeats 4000000
/-! Instances made by positional promises: cls(), cls(a, *b), C(a, *b); defs with star parameters by their text. -/
namespace K29
open PySem PySem.Spec PyProof.Rows L2 Evl
section
variable {X : Cx} {CX : CXT} {k i : Nat} {f C : Addr} {sp : Sp} {E : XK} {x : Str} {e : Expr} {es : List Expr} {t : TA} {p pos : Pos}
/-- the i-th slot holds the class at C -/
def tMkV (i : Nat) (C : Addr) (sp : Sp) (E : XK) (t : TA) : TE := fun σ H Q => σ[i]? = some (some (.ref C)) ∧ StX.tMakeR C sp E t σ H Q
theorem pe_mk0 (M : Mk X.K C f) (F : FnR X.prog X.w X.K X.mg X.base CX k f sp) (hr : Room (k + 1) X.A) (hx : Passes CX X E) (hN : X.N[i]? = some x) (hv : Vis X.env.scope x) (hd : (x == ("__debug__" : Str)) = false := by decide) (hcd : (x == ("__classdict__" : Str)) = false := by decide) :
    PE X (.Call (.Name x p) [] [] pos) (tMkV i C sp E tNil) := by
  refine ⟨fun pins s σ H Q I h => wpAny_Call_Name_kw (thn ((pe_var (pos := p) (i := i) hN hv hd hcd).run pins s σ H (fun v H1 => v = .ref C ∧ H1 = H) I ⟨.ref C, h.1, rfl, rfl⟩) fun u s1 ⟨v, H1, I1, r1, ev, eH⟩ => ?_)⟩
  subst ev
  rw [eH] at I1
  cases r1
  exact PySem.W.callWith_K0 I1.kIn M.kp (StX.run_makeR (us := []) M F hr hx I1 .nil h.2)
theorem pe_mkSV (M : Mk X.K C f) (F : FnR X.prog X.w X.K X.mg X.base CX k f sp) (hr : Room (k + 1) X.A) (hx : Passes CX X E) (hN : X.N[i]? = some x) (hv : Vis X.env.scope x) (ha : PA X (e :: es) t) (hd : (x == ("__debug__" : Str)) = false := by decide) (hcd : (x == ("__classdict__" : Str)) = false := by decide)
    (he : starEach (e :: es) X.env = (false, eval e X.env) :: starEach es X.env := by rfl) (hst : (backTo pos (starEach es X.env)).any (·.1) = true := by rfl) : PE X (.Call (.Name x p) (e :: es) [] pos) (tMkV i C sp E t) := by
  refine ⟨fun pins s σ H Q I h => wpAny_Call_Name_kw (thn ((pe_var (pos := p) (i := i) hN hv hd hcd).run pins s σ H (fun v H1 => v = .ref C ∧ H1 = H) I ⟨.ref C, h.1, rfl, rfl⟩) fun u s1 ⟨v, H1, I1, r1, ev, eH⟩ => ?_)⟩
  subst ev
  rw [eH] at I1
  cases r1
  exact PySem.W.callWith_S2 (h₀ := X.base) I1.ok.mod.kin M.kp (thn (ha.run pos pins s1 σ H _ I1 h.2) fun us s2 ⟨vs, H2, I2, r, q⟩ => ⟨I2.kIn, StX.run_makeR M F hr hx I2 r q⟩) he hst
theorem pe_mkS (M : Mk X.K C f) (F : FnR X.prog X.w X.K X.mg X.base CX k f sp) (hr : Room (k + 1) X.A) (hx : Passes CX X E) (hg : Gl X x) (hm : X.mg x = some (.ref C)) (ha : PA X (e :: es) t) (hd : (x == ("__debug__" : Str)) = false := by decide)
    (he : starEach (e :: es) X.env = (false, eval e X.env) :: starEach es X.env := by rfl) (hst : (backTo pos (starEach es X.env)).any (·.1) = true := by rfl) : PE X (.Call (.Name x p) (e :: es) [] pos) (StX.tMakeR C sp E t) := by
  refine ⟨fun pins s σ H Q I h => wpAny_Call_Name_kw (ld_glob I hg hm ?_ hd)⟩
  exact PySem.W.callWith_S2 (h₀ := X.base) I.ok.mod.kin M.kp (thn (ha.run pos pins s σ H _ I h) fun us s2 ⟨vs, H2, I2, r, q⟩ => ⟨I2.kIn, StX.run_makeR M F hr hx I2 r q⟩) he hst
end
section
variable {CX : CXT} {P : Program} {w : World} {K : PySem.W.Frag} {mg : Str → Option Value} {base : Heap} {k : Nat} {f : Addr} {x qual : Str} {params : Arguments} {body : List Stmt} {scope : Scope} {N ps : List Str} {sp : Sp}
/-- def f(a, .., *v), by its text -/
theorem fd_star {pv : Str} (F : ∃ fd, FunD K x qual params body scope [] [] f fd) (S : FnScope N (ps ++ [pv]) scope) (hCX : StX.CXUp CX)
    (hb : ∀ (kV doc pm : Value) (an : Option Addr) (cdv ct : Value) (us rest : List Value), us.length = ps.length → bindArgs (PySem.W.fnOf x qual params body scope .none kV doc pm an cdv ct) ⟨us ++ rest, []⟩ = (newTuple rest >>= fun t => pure (ps.zip us ++ [(pv, t)])))
    (hbody : ∀ (cdv : Value) (A : Around) (outer : List Env) (s : Shared) (H : Hp) (vs : List V) (Q : VK) (E : XK), Room k (A.deeper (envOfC qual scope s.heap.objs.size f cdv)) → sp vs H Q E →
      ∃ t, PSs (cxOf CX P w K mg base N qual scope f cdv A outer s H E) body t ∧ t { nx := fun _ H' => Q .non H', rt := Q } (start N vs) H) :
    FnR P w K mg base CX (k + 1) f (fun vs H Q E => ∃ ws rest, vs = ws ++ rest ∧ ws.length = ps.length ∧ rest.length ≤ sizeLine ∧ ∀ p us, H p = Option.none → sp (ws ++ [V.ref p]) (upd H p (.frz (stO us) (.tup rest))) Q E) := by
  obtain ⟨fd, F⟩ := F
  obtain ⟨oc, od, dV, kV, doc, pm, an, cdv, ct, osl, rfl, lk, hcd, hD, hK⟩ := F.ex
  rcases hD with ⟨_, rfl⟩ | ⟨e, _⟩
  · exact fn_starF lk hcd S hCX (hb kV doc pm an cdv ct) (hbody cdv)
  · exact absurd rfl e
/-- def f(a, .., *v, **d), by its text -/
theorem fd_starkw {pv pd : Str} (F : ∃ fd, FunD K x qual params body scope [] [] f fd) (S : FnScope N (ps ++ [pv, pd]) scope) (hCX : StX.CXUp CX)
    (hb : ∀ (kV doc pm : Value) (an : Option Addr) (cdv ct : Value) (us rest : List Value), us.length = ps.length → bindArgs (PySem.W.fnOf x qual params body scope .none kV doc pm an cdv ct) ⟨us ++ rest, []⟩ =
      (newTuple rest >>= fun t => (alloc ({ cls := .type "dict", data := .dict #[] } : Obj) : Sem Addr) >>= fun d => pure (ps.zip us ++ [(pv, t), (pd, Value.ref d)])))
    (hbody : ∀ (cdv : Value) (A : Around) (outer : List Env) (s : Shared) (H : Hp) (vs : List V) (Q : VK) (E : XK), Room k (A.deeper (envOfC qual scope s.heap.objs.size f cdv)) → sp vs H Q E →
      ∃ t, PSs (cxOf CX P w K mg base N qual scope f cdv A outer s H E) body t ∧ t { nx := fun _ H' => Q .non H', rt := Q } (start N vs) H) :
    FnR P w K mg base CX (k + 1) f (fun vs H Q E => ∃ ws rest, vs = ws ++ rest ∧ ws.length = ps.length ∧ rest.length ≤ sizeLine ∧ ∀ p d, H p = Option.none → H d = Option.none → d ≠ p → sp (ws ++ [V.ref p, V.ref d]) (upd (upd H p (.tup rest)) d (.dK [])) Q E) := by
  obtain ⟨fd, F⟩ := F
  obtain ⟨oc, od, dV, kV, doc, pm, an, cdv, ct, osl, rfl, lk, hcd, hD, hK⟩ := F.ex
  rcases hD with ⟨_, rfl⟩ | ⟨e, _⟩
  · exact StX.fn_starkw lk hcd S hCX (hb kV doc pm an cdv ct) (hbody cdv)
  · exact absurd rfl e
end
/-! ### Sheet.fill -/
section
variable {K : PySem.W.Frag} {σ : L2.St} {H H' : Hp} {te ta tv : TE} {D : Ends} {tz : TS} {a C dx : Addr} {fs : List (Str × V)} {f : Str}
theorem s_fldP {R : V → Hp → Prop} (hR : ∀ y H1 H2, Ex H1 H2 → R y H1 → R y H2) (h : EvP tv σ H R) (ho : Ev ta σ H (.ref a)) (ha : H a = some (.ins C dx fs)) (c : Cls K C) (n : NoAttr K C f) (hl : fs.length < 1000)
    (k : ∀ y H1, Ex H H1 → R y H1 → D.nx σ (upd H1 a (.ins C dx (putF f y fs)))) : sFld K ta tv f D σ H := h H (Ex.refl H) _ fun y H1 e1 r => ho H1 e1 _ fun H2 e2 => ⟨a, C, dx, fs, rfl, (e1.trans e2) _ _ ha, c, n, hl, k y H2 (e1.trans e2) (hR _ _ _ e2 r)⟩
theorem q_fldP {R : V → Hp → Prop} (hR : ∀ y H1 H2, Ex H1 H2 → R y H1 → R y H2) (h : EvP tv σ H R) (ho : Ev ta σ H (.ref a)) (ha : H a = some (.ins C dx fs)) (c : Cls K C) (n : NoAttr K C f) (hl : fs.length < 1000)
    (k : ∀ y H1, Ex H H1 → R y H1 → tz D σ (upd H1 a (.ins C dx (putF f y fs)))) : tSeq (sFld K ta tv f) tz D σ H := s_fldP (D := { D with nx := tz D }) hR h ho ha c n hl k
theorem q_fld {y : V} (h : Ev tv σ H y) (ho : Ev ta σ H (.ref a)) (ha : H a = some (.ins C dx fs)) (c : Cls K C) (n : NoAttr K C f) (hl : fs.length < 1000)
    (k : ∀ H1, Ex H H1 → tz D σ (upd H1 a (.ins C dx (putF f y fs)))) : tSeq (sFld K ta tv f) tz D σ H := h H (Ex.refl H) _ fun H1 e1 => ho H1 e1 _ fun H2 e2 => ⟨a, C, dx, fs, rfl, (e1.trans e2) _ _ ha, c, n, hl, k H2 (e1.trans e2)⟩
theorem q_asgND {i : Nat} {rows : List Str} {nr : Str → List Str} (h : EvND te σ H rows nr) (k : ∀ p H2 nd' ad, H p = none → Ex H H2 → NdAt H2 p rows nd' ad → (∀ r ∈ rows, (nd' r).Perm (nr r)) → tz D (σ.set i (some (.ref p))) H2) : tSeq (tAsg te (gName i)) tz D σ H := h H (Ex.refl H) _ k
theorem ev_tupT {p : Addr} {xs : List V} (h : Ev ta σ H (.ref p)) (hp : SqT K H p xs) : Ev (tCB (fun xs H Q => ∃ p ys, xs = [.ref p] ∧ ((SqL K H p ys ∧ ∀ l, H l = none → Q (.ref l) (upd H l (.tup ys))) ∨ (SqT K H p ys ∧ Q (.ref p) H))) (tCons ta tNil)) σ H (.ref p) := fun H1 e Q q =>
  h H1 e _ fun H2 e2 => ⟨p, xs, rfl, .inr ⟨ex_t (e.trans e2) hp, q H2 e2⟩⟩
theorem eu_tupL {p : Addr} {xs : List V} (h : Ev ta σ H (.ref p)) (hp : SqL K H p xs) : EvU (tCB (fun xs H Q => ∃ p ys, xs = [.ref p] ∧ ((SqL K H p ys ∧ ∀ l, H l = none → Q (.ref l) (upd H l (.tup ys))) ∨ (SqT K H p ys ∧ Q (.ref p) H))) (tCons ta tNil)) σ H xs := fun H1 e Q q =>
  h H1 e _ fun H2 e2 => ⟨p, xs, rfl, .inl ⟨ex_l (e.trans e2) hp, fun l hl => q l _ (fresh_back e2 hl) (e2.trans (Ex.new hl)) upd_same⟩⟩
theorem eu_tupN {xs : List V} (h : EvL ta σ H xs) : EvU (tCB (fun xs H Q => ∃ p ys, xs = [.ref p] ∧ ((SqL K H p ys ∧ ∀ l, H l = none → Q (.ref l) (upd H l (.tup ys))) ∨ (SqT K H p ys ∧ Q (.ref p) H))) (tCons ta tNil)) σ H xs := fun H1 e Q q =>
  h H1 e _ fun p H2 _ e2 h2 => ⟨p, xs, rfl, .inl ⟨sq_of h2, fun l hl => q l _ (fresh_back e2 hl) (e2.trans (Ex.new hl)) upd_same⟩⟩
end
section
variable {P : Program} {w : World} {K : PySem.W.Frag} {mg : Str → Option Value} {base : Heap}
abbrev nsF : List Str := ["self", "rows", "needs", "direct", "ring", "name", "index"]
theorem sc_fill : FnScope nsF ["self", "rows", "needs"] (defScope s_Sheet_fill) := ⟨rfl, rfl, rfl, by decide +kernel, rfl, by decide +kernel, by decide +kernel⟩
structure FillK (K : PySem.W.Frag) (H : Hp) (Q : VK) (a dx : Addr) (rows : List Str) (nr : Str → List Str) : Prop where
  go : ∀ (H2 : Hp) (n d o : Addr) (z : Str) (nd' : Str → List Str) (ad : Str → Addr), ExB a H H2 → H2 a = some (.ins (cS K) dx (shF n d o z)) → ShPart H2 (shF n d o z) rows nd' n d ad → OrdAt H2 o rows → (∀ r ∈ rows, (nd' r).Perm (nr r)) → Q .non H2
def spFill (K : PySem.W.Frag) : Sp := fun vs H Q _ => ∃ (a t d dx : Addr) (fs : List (Str × V)) (rows ks : List Str) (nd : Str → List Str) (ad : Str → Addr), vs = [.ref a, .ref t, .ref d] ∧ H a = some (.ins (cS K) dx fs) ∧ FsOk fs ∧ H t = some (.tup (rows.map V.str)) ∧ NdAt H d ks nd ad ∧
  (∀ r ∈ ks, r ∈ rows) ∧ ks.Nodup ∧ Sht rows (nrF ks nd) ∧ FillK K H Q a dx rows (nrF ks nd)
theorem ok_fill (T : Tx K mg) : FnR P w K mg base CX0 4 (He.ma K (cS K) "fill") (spFill K) := by
  have G1 := ok_need_rows (P := P) (w := w) (base := base) T
  have G2 := ok_need_needs (P := P) (w := w) (base := base) T
  have G3 := ok_ring_in (P := P) (w := w) (base := base) T
  have G4 := ok_sheet_text (P := P) (w := w) (base := base) T
  obtain ⟨_, D1⟩ := T.d_need_rows
  obtain ⟨_, D2⟩ := T.d_need_needs
  obtain ⟨_, D3⟩ := T.d_ring_in
  obtain ⟨_, D4⟩ := T.d_sheet_text
  refine fnr T.d_Sheet_fill sc_fill (fun _ _ _ _ _ _ us hl => match us, hl with | [_, _, _], _ => rfl) (fun vs H Q E h => ?_) (fun cdv A outer s H vs Q E hr h => ?_)
  · obtain ⟨a, t, d, dx, fs, rows, ks, nd, ad, rfl, _⟩ := h
    rfl
  · obtain ⟨a, t, d, dx, fs, rows, ks, nd, ad, rfl, ha, hfs, ht, N, hk, hkn, S, k⟩ := h
    have hu := hu_of hr
    refine ⟨_, pss_cons (ps_expr (pe_fn G1 hr (by rfl) T.g_need_rows D1.kp pass0 (pa_cons (pv 1) pa_nil)))
      (pss_cons (ps_expr (pe_fn G2 hr (by rfl) T.g_need_needs D2.kp pass0 (pa_cons (pv 1) (pa_cons (pv 2) pa_nil))))
      (pss_cons (ps_setDc (i := 3) (own := [("name", 5)]) (g := gName 5) (tv := tCB (fun xs H Q => ∃ p ys, xs = [.ref p] ∧ ((SqL K H p ys ∧ ∀ l, H l = none → Q (.ref l) (upd H l (.tup ys))) ∨ (SqT K H p ys ∧ Q (.ref p) H))) (tCons (tCB (rSortU K) (tCons (tDGet2 (tVar 2) (tVar 5) (tTup tNil)) tNil)) tNil)) rfl sc_fill.nd rfl rfl (sw_trueD rfl rfl rfl rfl) (pi_tup (pv 1))
          (blkOk_by (own := [("name", 5)]) (N := nsF) (sc := defScope s_Sheet_fill) (by decide +kernel)) (fun _ _ _ _ _ => pg_name (i := 5) sc_fill.nd rfl (Or.inl rfl)) (fun _ _ _ _ _ => pts_nil) (fun _ _ _ _ _ => pv 5)
          (fun _ _ _ _ _ => pe_callTy call_tuple_of (by rfl) T.f_tuple cs_tuple (pa_cons (pe_callB cr_sortU (by rfl) T.f_sorted bi_sorted (pa_cons (pe_dget2 hu (pv 2) (pv 5) (pe_tup pa_nil) ⟨rfl, rfl, rfl, rfl⟩) pa_nil)) pa_nil)))
      (pss_cons (ps_asg (pe_fn G3 (hr.mono (by decide)) (by rfl) T.g_ring_in D3.kp pass0 (pa_cons (pv 3) pa_nil)) (pg_name (i := 4) sc_fill.nd rfl (Or.inl rfl)))
      (pss_cons (ps_if (pt_cmp (pc_notN (pv 4)) rfl) pss_dead pss_nil)
      (pss_cons (ps_fld (pv 0) (pe_callTy call_tuple_of (by rfl) T.f_tuple cs_tuple (pa_cons (pv 1) pa_nil)) rfl)
      (pss_cons (ps_fld (pv 0) (pv 3) rfl)
      (pss_cons (ps_fld (pv 0) (pe_dc (own := [("index", 6), ("name", 5)]) (g := gPair K 6 5) rfl sc_fill.nd (pi_enumT (by rfl) T.f_enumerate (pa_cons (pv 1) pa_nil)) (blkOk_by (own := [("index", 6), ("name", 5)]) (N := nsF) (sc := defScope s_Sheet_fill) (by decide +kernel))
          (fun _ _ _ _ _ => pg_tup (n := 2) rfl (pgs_cons (pg_name (i := 6) sc_fill.nd rfl (Or.inl rfl)) (pgs_cons (pg_name (i := 5) sc_fill.nd rfl (Or.inl rfl)) pgs_nil))) (fun _ _ _ _ _ => pts_nil) (fun _ _ _ _ _ => pv 5) (fun _ _ _ _ _ => pv 6)) rfl)
      (pss_one (ps_fld (pv 0) (pe_fn G4 hr (by rfl) T.g_sheet_text D4.kp pass0 (pa_cons (pv 0) pa_nil)) rfl))))))))), ?_⟩
    have R : Rws rows := ⟨S.nod, S.len, S.nam⟩
    have td : t ≠ d := fun z => by rw [z, N.hd] at ht; cases ht
    have hkl : ks.length ≤ 12 := Nat.le_trans (len_sub hkn hk) S.len
    have nrk : ∀ r ∈ ks, nrF ks nd r = nd r := fun r hr => by unfold nrF; rw [if_pos hr]
    refine q_drop (ev_fn (vs := [.ref t]) (ea_cons (ev_var rfl) ea_nil) fun H1 e Q k => ⟨t, rows, rfl, .inl (e _ _ ht), R, k⟩) fun H1 e1 => ?_
    refine q_drop (ev_fn (vs := [.ref t, .ref d]) (ea_cons (ev_var rfl) (ea_cons (ev_var rfl) ea_nil)) fun H2 e Q k => ⟨t, d, rows, ks, nd, ad, rfl, st_of ((e1.trans e) _ _ ht), td, ⟨(e1.trans e) _ _ N.hd, fun r hr => (e1.trans e) _ _ (N.ha r hr)⟩, R, hk, hkl, fun r hr => ?_, k⟩) fun H2 e2 => ?_
    · rw [← nrk r hr]
      exact ⟨S.ndn r (hk r hr), S.sub r (hk r hr)⟩
    have e02 := e1.trans e2
    have en := ed_needs (K := K) (σ := [some (.ref a), some (.ref t), some (.ref d), none, none, none, none]) (H := H2) (tl := tVar 1) (te := tCB (fun xs H Q => ∃ p ys, xs = [.ref p] ∧ ((SqL K H p ys ∧ ∀ l, H l = none → Q (.ref l) (upd H l (.tup ys))) ∨ (SqT K H p ys ∧ Q (.ref p) H))) (tCons (tCB (rSortU K) (tCons (tDGet2 (tVar 2) (tVar 5) (tTup tNil)) tNil)) tNil)) (nr := nrF ks nd) (j := 5) (vs := [5])
      S.nod (ev_var rfl) (st_of (e02 _ _ ht)) (by have := S.len; omega) (fun x => rfl) (fun x => rfl) fun x H3 e3 hx => evp_sort (by have := S.ndlen hx; omega) (evp_getE (ev_var rfl) (ev_var rfl) ⟨(e02.trans e3) _ _ N.hd, fun r hr => (e02.trans e3) _ _ (N.ha r hr)⟩)
    refine q_asgND en fun dd H3 nd' ad2 hdd e3 N2 hperm => ?_
    have S2 := S.perm hperm
    have e03 := e02.trans e3
    have ha3 := e03 _ _ ha
    have dda : dd ≠ a := fun z => by rw [z, e02 _ _ ha] at hdd; cases hdd
    change tSeq _ _ _ [some (.ref a), some (.ref t), some (.ref d), some (.ref dd), none, none, none] H3
    refine q_asg (ev_fn (vs := [.ref dd]) (ea_cons (ev_var rfl) ea_nil) fun H4 e Q k => ⟨dd, rows, nd', ad2, rfl, ⟨e _ _ N2.hd, fun r hr => e _ _ (N2.ha r hr)⟩, S2, k⟩) fun H4 e4 => ?_
    refine q_when (b := false) (et_is (et_B (ev_notN (ev_var rfl))) rfl) (fun h => by cases h) fun _ H5 e5 => ?_
    have e05 := e03.trans (e4.trans e5)
    have fl := hfs.len
    refine q_fld (ev_tupT (ev_var rfl) (st_of (e05 _ _ ht))) (ev_var rfl) (e05 _ _ ha) T.c_Sheet T.n_Sheet_names (by omega) fun H6 e6 => ?_
    have b6 : ExB a H (upd H6 a (.ins (cS K) dx (putF "names" (.ref t) fs))) := (ExB.ex (e05.trans e6)).trans ExB.upd
    have hdd6 : (upd H6 a (.ins (cS K) dx (putF "names" (.ref t) fs))) dd = some (.dK (dO rows fun r => .ref (ad2 r))) := by rw [upd_ne dda]; exact (e4.trans (e5.trans e6)) _ _ N2.hd
    have had6 : ∀ r ∈ rows, (upd H6 a (.ins (cS K) dx (putF "names" (.ref t) fs))) (ad2 r) = some (.tup ((nd' r).map V.str)) := fun r hr => by
      rw [upd_ne fun z => ?_]
      · exact (e4.trans (e5.trans e6)) _ _ (N2.ha r hr)
      · have := N2.ha r hr
        rw [z, ha3] at this
        cases this
    have ta : t ≠ a := fun z => by rw [z, ha] at ht; cases ht
    generalize h7 : upd H6 a (.ins (cS K) dx (putF "names" (.ref t) fs)) = H7 at *
    have ha7 : H7 a = some (.ins (cS K) dx (putF "names" (.ref t) fs)) := by rw [← h7, upd_same]
    have l1 := putF_len "names" (V.ref t) fs
    refine q_fld (y := .ref dd) (ev_var rfl) (ev_var rfl) ha7 T.c_Sheet T.n_Sheet_direct (by omega) fun H8 e8 => ?_
    have b8 : ExB a H7 (upd H8 a (.ins (cS K) dx (putF "direct" (.ref dd) (putF "names" (.ref t) fs)))) := (ExB.ex e8).trans ExB.upd
    generalize h9 : upd H8 a (.ins (cS K) dx (putF "direct" (.ref dd) (putF "names" (.ref t) fs))) = H9 at *
    have ha9 : H9 a = some (.ins (cS K) dx (putF "direct" (.ref dd) (putF "names" (.ref t) fs))) := by rw [← h9, upd_same]
    have l2 := putF_len "direct" (V.ref dd) (putF "names" (V.ref t) fs)
    have ht9 : H9 t = some (.tup (rows.map V.str)) := b8 _ _ ta (b6 _ _ ta ht)
    have eo : EvP (tDc (iEnumT K (tCons (tVar 1) tNil)) (gPair K 6 5) tYes (tVar 5) (tVar 6) [6, 5]) [some (.ref a), some (.ref t), some (.ref d), some (.ref dd), some .non, none, none] H9 (fun y H1 => ∃ o, y = .ref o ∧ H9 o = none ∧ OrdAt H1 o rows) := fun H1 e Q q =>
      ed_enum (K := K) S.nod (ev_var rfl) (st_of ht9) (by have := S.len; omega) (fun x y => rfl) (fun x y => rfl) (fun x y => rfl) H1 e Q fun p H2 hp e2 h2 => q _ H2 e2 ⟨p, rfl, fresh_back e hp, h2⟩
    refine q_fldP (fun y H1 H2 e h => let ⟨o, r1, r0, r2⟩ := h; ⟨o, r1, r0, e _ _ r2⟩) eo (ev_var rfl) ha9 T.c_Sheet T.n_Sheet_order (by omega) fun y H10 e10 ho => ?_
    obtain ⟨oo, rfl, hoo, ho⟩ := ho
    have oa : oo ≠ a := fun z => by rw [z, ha9] at hoo; cases hoo
    have b10 : ExB a H9 (upd H10 a (.ins (cS K) dx (putF "order" (.ref oo) (putF "direct" (.ref dd) (putF "names" (.ref t) fs))))) := (ExB.ex e10).trans ExB.upd
    have ho11 : OrdAt (upd H10 a (.ins (cS K) dx (putF "order" (.ref oo) (putF "direct" (.ref dd) (putF "names" (.ref t) fs))))) oo rows := by
      unfold OrdAt
      rw [upd_ne oa]
      exact ho
    generalize h11 : upd H10 a (.ins (cS K) dx (putF "order" (.ref oo) (putF "direct" (.ref dd) (putF "names" (.ref t) fs)))) = H11 at *
    have ha11 : H11 a = some (.ins (cS K) dx (putF "order" (.ref oo) (putF "direct" (.ref dd) (putF "names" (.ref t) fs)))) := by rw [← h11, upd_same]
    have l3 := putF_len "order" (V.ref oo) (putF "direct" (V.ref dd) (putF "names" (V.ref t) fs))
    have adn : ∀ r ∈ rows, ad2 r ≠ a := fun r hr z => by
      have := N2.ha r hr
      rw [z, ha3] at this
      cases this
    have P11 : ShPart H11 (putF "order" (.ref oo) (putF "direct" (.ref dd) (putF "names" (.ref t) fs))) rows nd' t dd ad2 := by
      refine ⟨?_, ?_, b10 _ _ ta ht9, b10 _ _ dda (b8 _ _ dda hdd6), fun r hr => b10 _ _ (adn r hr) (b8 _ _ (adn r hr) (had6 r hr))⟩
      · rw [lookup_putF, if_neg n_no, lookup_putF, if_neg n_nd, lookup_putF, if_pos rfl]
      · rw [lookup_putF, if_neg n_do, lookup_putF, if_pos rfl]
    refine s_fldP (D := { nx := fun _ H' => Q .non H', rt := Q }) (R := StrLe 10000) (fun y H1 H2 e h => h) (evp_fn (vs := [.ref a]) (ea_cons (ev_var rfl) ea_nil) fun H12 e Q k => ⟨a, dx, _, rows, nd', t, dd, ad2, rfl, e _ _ ha11, P11.ex e, S2, k⟩) (ev_var rfl) ha11 T.c_Sheet T.n_Sheet_shown (by omega) fun y H12 e12 hy => ?_
    obtain ⟨z, rfl, _⟩ := hy
    rw [put4 hfs]
    have bf : ExB a H11 (upd H12 a (.ins (cS K) dx (shF t dd oo z))) := (ExB.ex e12).trans ExB.upd
    exact k.go _ t dd oo z nd' ad2 (b6.trans (b8.trans (b10.trans bf))) upd_same ⟨shF_names, shF_direct, bf _ _ ta P11.hn, bf _ _ dda P11.hd, fun r hr => bf _ _ (adn r hr) (P11.ha r hr)⟩ (bf _ _ oa ho11) hperm
end
end K29
set_option Elab.async false
set_option linter.all false
set_option maxRecDepth 100000
set_option maxHeartbeats 4000000
/-! Sheet.__init__, Sheet.of, Sheet.__eq__. -/
namespace K29
open PySem PySem.Spec PyProof.Rows L2 Evl
section
variable {P : Program} {w : World} {K : PySem.W.Frag} {mg : Str → Option Value} {base : Heap}
theorem sc_Sheet_init : FnScope ["self", "rows", "needs"] ["self", "rows", "needs"] (defScope s_Sheet_init) := ⟨rfl, rfl, rfl, by decide +kernel, rfl, by decide +kernel, by decide +kernel⟩
def spShInit (K : PySem.W.Frag) : Sp := fun vs H Q _ => ∃ (a dx : Addr), vs = [.ref a] ∧ H a = some (.ins (cS K) dx []) ∧ FillK K H Q a dx [] (nrF [] fun _ => [])
theorem ok_Sheet_init (T : Tx K mg) : FnR P w K mg base CX0 5 (He.ma K (cS K) "__init__") (spShInit K) := by
  have G := ok_fill (P := P) (w := w) (base := base) T
  refine (fd_starkw (pv := "rows") (pd := "needs") (ps := ["self"]) (N := ["self", "rows", "needs"]) (k := 4) (CX := CX0) (sp := spFill K) T.d_Sheet_init sc_Sheet_init StX.cxUp_none (fun _ _ _ _ _ _ us rest hl => match us, rest, hl with | [_], [], _ => rfl | [_], _ :: _, _ => rfl) fun cdv A outer s H vs Q E hr h => ?_).imp fun vs H Q E h => ?_
  · obtain ⟨a, t, d, dx, fs, rows, ks, nd, ad, rfl, ha, hfs, r1, r2, r3, r4, r5, kk⟩ := h
    have hm : fs.lookup ("fill" : Str) = none := by
      rcases hfs with rfl | ⟨n0, d0, o0, z0, rfl⟩
      · rfl
      · exact (by decide +kernel : (("fill" : Str) == "names") = false ∧ (("fill" : Str) == "direct") = false ∧ (("fill" : Str) == "order") = false ∧ (("fill" : Str) == "shown") = false).elim fun a b => b.elim fun b c => c.elim fun c d => by simp [shF, List.lookup, a, b, c, d]
    have body : PSs (cxOf CX0 P w K mg base ["self", "rows", "needs"] d_Sheet_init.qual d_Sheet_init.scope (He.ma K (cS K) "__init__") cdv A outer s H E).nox d_Sheet_init.body _ :=
      pss_one (ps_expr (pe_methR (pv 0) T.c_Sheet T.m_Sheet_fill G hr (E := E0) pass0 (pa_cons (pv 1) (pa_cons (pv 2) pa_nil))))
    refine ⟨_, body.nox, ?_⟩
    exact ⟨.ref a, rfl, a, dx, fs, rfl, ha, hm, .ref t, rfl, .ref d, rfl, a, t, d, dx, fs, rows, ks, nd, ad, rfl, ha, hfs, r1, r2, r3, r4, r5, ⟨fun H2 n d o z nd' ad e a p q r => kk.go H2 n d o z nd' ad e a p q r⟩⟩
  · obtain ⟨a, dx, rfl, ha, k⟩ := h
    refine ⟨[.ref a], [], rfl, rfl, Nat.zero_le _, fun p d hp hd dp => ⟨a, p, d, dx, [], [], [], fun _ => [], fun _ => 0, rfl, ?_, .inl rfl, ?_, ⟨upd_same, (fun r hr => by cases hr)⟩, (fun r hr => by cases hr), List.nodup_nil, ⟨List.nodup_nil, Nat.zero_le _, (fun r hr => by cases hr), (fun r hr => by cases hr), (fun r hr => by cases hr), (fun _ => 0), (fun r hr => by cases hr)⟩, ⟨fun H2 n d2 o z nd' ad e => k.go H2 n d2 o z nd' ad ((ExB.ex ((Ex.new hp).trans (Ex.new ?_))).trans e)⟩⟩⟩
    · have pa : a ≠ p := fun z => by rw [← z, ha] at hp; cases hp
      have da : a ≠ d := fun z => by rw [← z, ha] at hd; cases hd
      rw [upd_ne da, upd_ne pa]
      exact ha
    · rw [upd_ne (Ne.symm dp), upd_same]
      rfl
    · rw [upd_ne dp]
      exact hd
/-! ### Sheet.of -/
theorem sc_Sheet_of : FnScope ["cls", "rows", "needs", "found"] ["cls", "rows", "needs"] (defScope s_Sheet_of) := ⟨rfl, rfl, rfl, by decide +kernel, rfl, by decide +kernel, by decide +kernel⟩
/-- a new sheet -/
def NewSh (K : PySem.W.Frag) (rows : List Str) (nr : Str → List Str) : V → Hp → Prop := fun v H2 => ∃ (a : Addr) (nd' : Str → List Str), v = .ref a ∧ ShAt (cS K) H2 a rows nd' ∧ ∀ r ∈ rows, (nd' r).Perm (nr r)
def spShOf (K : PySem.W.Frag) : Sp := fun vs H Q _ => ∃ (t d : Addr) (rows ks : List Str) (nd : Str → List Str) (ad : Str → Addr), vs = [.ref (cS K), .ref t, .ref d] ∧ H t = some (.tup (rows.map V.str)) ∧ NdAt H d ks nd ad ∧
  (∀ r ∈ ks, r ∈ rows) ∧ ks.Nodup ∧ Sht rows (nrF ks nd) ∧ RetP (NewSh K rows (nrF ks nd)) H Q
theorem ok_Sheet_of (T : Tx K mg) : FnR P w K mg base CX0 7 (gAd K g_Sheet_of) (spShOf K) := by
  have G1 := ok_Sheet_init (P := P) (w := w) (base := base) T
  have G2 := ok_fill (P := P) (w := w) (base := base) T
  refine fnr T.dg_Sheet_of sc_Sheet_of (fun _ _ _ _ _ _ us hl => match us, hl with | [_, _, _], _ => rfl) (fun vs H Q E h => ?_) (fun cdv A outer s H vs Q E hr h => ?_)
  · obtain ⟨t, d, rows, ks, nd, ad, rfl, _⟩ := h
    rfl
  · obtain ⟨t, d, rows, ks, nd, ad, rfl, ht, N, hk, hkn, S, k⟩ := h
    refine ⟨_, pss_cons (ps_asg (pe_mk0 (i := 0) T.mk_Sheet G1 hr (E := E0) pass0 rfl (Or.inl rfl)) (pg_name (i := 3) sc_Sheet_of.nd rfl (Or.inl rfl)))
      (pss_cons (ps_expr (pe_methR (pv 3) T.c_Sheet T.m_Sheet_fill G2 (hr.mono (by decide)) (E := E0) pass0 (pa_cons (pv 1) (pa_cons (pv 2) pa_nil))))
      (pss_one (ps_ret (pv 3)))), ?_⟩
    refine ⟨rfl, fun x dx hx hdx ne => ?_⟩
    have e1 : Ex H (upd (upd H dx (.own x)) x (.ins (cS K) dx [])) := (Ex.new hdx).trans (Ex.new (by rw [upd_ne (Ne.symm ne)]; exact hx))
    refine ⟨x, dx, rfl, upd_same, ⟨fun H2 n d2 o z nd1 ad1 eb ha2 P2 ho2 hp2 => ⟨rfl, ?_⟩⟩⟩
    have e2 : Ex H H2 := ExB.fresh ((ExB.ex e1).trans eb) hx
    have hm : (shF n d2 o z).lookup ("fill" : Str) = none :=
      (by decide +kernel : (("fill" : Str) == "names") = false ∧ (("fill" : Str) == "direct") = false ∧ (("fill" : Str) == "order") = false ∧ (("fill" : Str) == "shown") = false).elim fun a b => b.elim fun b c => c.elim fun c d => by simp [shF, List.lookup, a, b, c, d]
    refine ⟨.ref x, rfl, x, dx, _, rfl, ha2, hm, .ref t, rfl, .ref d, rfl, x, t, d, dx, _, rows, ks, nd, ad, rfl, ha2, .inr ⟨_, _, _, _, rfl⟩, e2 _ _ ht, ⟨e2 _ _ N.hd, fun r hr => e2 _ _ (N.ha r hr)⟩, hk, hkn, S, ⟨fun H3 n3 d3 o3 z3 nd3 ad3 eb3 ha3 P3 ho3 hp3 => ?_⟩⟩
    exact ⟨.ref x, rfl, k _ H3 (ExB.fresh ((ExB.ex e1).trans (eb.trans eb3)) hx) ⟨x, nd3, rfl, ⟨dx, n3, d3, o3, z3, ad3, ha3, P3, ho3⟩, hp3⟩⟩
/-! ### Sheet.__eq__, a sheet and itself -/
theorem sc_Sheet_eq : FnScope ["self", "other"] ["self", "other"] (defScope s_Sheet_eq) := ⟨rfl, rfl, rfl, by decide +kernel, rfl, by decide +kernel, by decide +kernel⟩
/-- the same sheet -/
def SameSh (K : PySem.W.Frag) (a b : Addr) (H : Hp) : Prop := a = b ∧ ∃ rows nd, ShAt (cS K) H a rows nd ∧ rows.length ≤ 60 ∧ ∀ r ∈ rows, IsName r
theorem ok_Sheet_eq (T : Tx K mg) : ∃ fd, FnOk P w K mg base CX0 1 (He.ma K (cS K) "__eq__") fd ["self", "other"] (spEq (SameSh K)) ∧ Binds K fd ["self", "other"] [] := by
  obtain ⟨fd, D⟩ := T.d_Sheet_eq
  refine ⟨fd, D.ok sc_Sheet_eq (fun vs H Q E h => ?_) (fun cdv A outer s H vs Q E hr h => ?_), D.bindsN fun _ _ _ _ _ _ us hl => match us, hl with | [_, _], _ => rfl⟩
  · obtain ⟨a, b, rfl, _⟩ := h
    rfl
  · obtain ⟨a, b, rfl, ⟨rfl, rows, nd, S, hl, hnm⟩, k⟩ := h
    obtain ⟨dx, n, d, o, z, ad, h1, S1, h3⟩ := S.ex_
    have body : PSs (cxOf CX0 P w K mg base ["self", "other"] d_Sheet_eq.qual d_Sheet_eq.scope (He.ma K (cS K) "__eq__") cdv A outer s H E).nox d_Sheet_eq.body _ :=
      pss_one (ps_ret (pe_and (pe_callB call_isi (by rfl) T.f_isinstance bi_isinstance (pa_cons (pv 1) (pa_cons (pe_glob (v := .ref (cS K)) (by rfl) T.g_Sheet rfl) pa_nil)))
        (pe_and (pe_cmpR (op_eqD hr.units) (pe_fld (pv 0) rfl) (pe_fld (pv 1) rfl) (nomark _)) (pe_one (pe_cmpR (op_eqV hr.units) (pe_fld (pv 0) rfl) (pe_fld (pv 1) rfl) (nomark _))))))
    refine ⟨_, body.nox, ?_⟩
    have hz : ∀ x ∈ rows, PyData.strOk x = true := fun x hx => nm_ok (hnm x hx)
    have f0 : ∀ f v, (shF n d o z).lookup f = some v → NoAttr K (cS K) f → ∀ i, i = 0 ∨ i = 1 → Ev (tFld K (tVar i) f) [some (.ref a), some (.ref a)] H v := fun f v l nn i hi => by
      rcases hi with rfl | rfl
      · exact ev_fld (ev_var rfl) h1 T.c_Sheet nn l
      · exact ev_fld (ev_var rfl) h1 T.c_Sheet nn l
    have dn : Dp K H (.ref n) (.tuple (rows.map PyData.str)) := .tup (st_of S1.hn) (dpAll_S rows)
    have eqn := ev_eqD (K := K) (ev_dat (f0 _ _ shF_names T.n_Sheet_names 0 (.inl rfl)) dn) (ev_dat (f0 _ _ shF_names T.n_Sheet_names 1 (.inr rfl)) dn) (shaped_S hz) (shaped_S hz)
    rw [eqv_t, eqv_map _ eqv_str, decide_eq_true rfl] at eqn
    have eqd : Ev (tOp (rEqV K) (tFld K (tVar 0) "direct") (tFld K (tVar 1) "direct")) [some (.ref a), some (.ref a)] H (.bl true) := fun H1 e Q q =>
      f0 _ _ shF_direct T.n_Sheet_direct 0 (.inl rfl) H1 e _ fun H2 e2 => f0 _ _ shF_direct T.n_Sheet_direct 1 (.inr rfl) H2 (e.trans e2) _ fun H3 e3 => by
        have hd := ((e.trans e2).trans e3) _ _ S1.hd
        refine ⟨1, by decide, .inr ⟨d, d, _, _, rfl, rfl, hd, hd, rfl, fun p hp => ?_⟩, q H3 (e2.trans e3)⟩
        obtain ⟨r, hr, rfl⟩ := List.mem_map.mp hp
        exact ⟨_, by rw [valV_dO, if_pos hr], .inr (.inl ⟨ad r, rfl, rfl⟩)⟩
    refine s_ret (D := { nx := fun _ H' => Q .non H', rt := Q }) (ev_andV (a := true) (ev_isi (x := .ref a) (tv := .ref (cS K)) (ev_var rfl) ev_c (.own _) (fun H1 e => .base (.ins (e _ _ h1) T.c_Sheet T.is_Sheet.ha T.is_Sheet.hn T.is_Sheet.ht T.is_Sheet.hm)) ?_) fun _ => ev_andV (a := true) eqn fun _ => eqd) fun H1 e => k H1 e
    unfold PySem.W.kitOne
    rw [if_pos (by simp)]
end
end K29
set_option Elab.async false
set_option linter.all false
set_option maxRecDepth 100000
set_option maxHeartbeats 4000000
/-! What a keep holds; lists of new copies; Keep.__init__. -/
namespace K29
open PySem PySem.Spec PyProof.Rows L2 Evl
/-! ### a new list of new copies -/
/-- the copies at these addresses -/
def CpsIn (H : Hp) (ad : Nat → Addr) (cs : List (Str × Int)) : Prop := ∀ i c, cs[i]? = some c → CpAt H (ad i) c
theorem CpsIn.ex {H H' : Hp} {ad : Nat → Addr} {cs : List (Str × Int)} (h : CpsIn H ad cs) (e : Ex H H') : CpsIn H' ad cs := fun i c hc => e _ _ (h i c hc)
def refs (ad : Nat → Addr) (n : Nat) : List V := (List.range n).map fun i => .ref (ad i)
theorem refs_len (ad : Nat → Addr) (n : Nat) : (refs ad n).length = n := by unfold refs; rw [List.length_map, List.length_range]
theorem refs_at {ad : Nat → Addr} {n i : Nat} (hi : i < n) : (refs ad n)[i]? = some (.ref (ad i)) := by
  unfold refs
  rw [List.getElem?_map, List.getElem?_range hi]
  rfl
theorem refs_congr {ad ad' : Nat → Addr} {n : Nat} (h : ∀ i, i < n → ad i = ad' i) : refs ad n = refs ad' n := List.map_congr_left fun i hi => by rw [h i (List.mem_range.mp hi)]
theorem refs_succ (ad : Nat → Addr) (n : Nat) : refs ad (n + 1) = refs ad n ++ [.ref (ad n)] := by unfold refs; rw [List.range_succ, List.map_append]; rfl
theorem CpsIn.at {K : PySem.W.Frag} {H : Hp} {p : Addr} {ad : Nat → Addr} {cs : List (Str × Int)} (h : CpsIn H ad cs) (hp : SqT K H p (refs ad cs.length)) : CpsAt K H p cs := ⟨ad, hp, h⟩
def EvC (te : TE) (σ : L2.St) (H : Hp) (cs : List (Str × Int)) : Prop := ∀ H1, Ex H H1 → ∀ Q : VK, (∀ p H2 ad, H1 p = none → Ex H1 H2 → H2 p = some (.lst (refs ad cs.length)) → CpsIn H2 ad cs → Q (.ref p) H2) → te σ H1 Q
/-- a value that is a new copy -/
def NewCp (H : Hp) (c : Str × Int) : V → Hp → Prop := fun v H2 => ∃ q, v = .ref q ∧ H q = none ∧ CpAt H2 q c
section
variable {K : PySem.W.Frag} {σ : L2.St} {H H' : Hp} {te ta tb : TE} {tt : TT} {x y z v : V}
theorem evp_cp {c : Str × Int} (h : EvU te σ H [.str c.1, .int c.2]) : EvP te σ H (NewCp H c) := fun H1 e Q k => h H1 e Q fun p H2 hp e2 h2 => k _ _ e2 ⟨p, rfl, fresh_back e hp, h2⟩
theorem ec_W {J : It} {n : Nat} {G : Hp → Prop} {Y : Nat → Hp → V → Hp → Prop} {wi : TI} {g : TG} {vs : List Nat} (f : Nat → Bool) (c : Nat → Str × Int) (w : Walk J n G Y) (hn : n ≤ 40000)
    (hi : ∀ H1, Ex H H1 → ∀ R : It → Hp → Prop, (∀ H2, Ex H1 H2 → G H2 → R J H2) → wi σ H1 R) (hG : ∀ H1 H2, Ex H1 H2 → G H1 → G H2)
    (ht : ∀ (i : Nat) x H1 H2, Ex H H1 → i < n → G H1 → Y i H1 x H2 → Ex H1 H2 ∧ ∀ R : L2.St → Hp → Prop, (∀ σ2, wipe σ2 vs = wipe σ vs → EvT tt σ2 H2 (f i) → (f i = true → ∀ H3, Ex H2 H3 → EvP te σ2 H3 (NewCp H3 (c i))) → R σ2 H2) → g x (wipe σ vs) H2 R) :
    EvC (tLc wi g tt te vs) σ H (((List.range n).filter f).map c) := fun H0 e Q q =>
  hi H0 e _ fun H1 e1 g1 Dl hD => lc_it w (fun i H2 => H1 Dl = none ∧ Ex H1 H2 ∧ ∃ ad, H2 Dl = some (.lst (refs ad (((List.range i).filter f).map c).length)) ∧ CpsIn H2 ad (((List.range i).filter f).map c) ∧ ∀ j, j < (((List.range i).filter f).map c).length → ad j ≠ Dl) ⟨hD, Ex.new hD, fun _ => 0, upd_same, (fun i c h => by cases h), fun j hj => by cases hj⟩ (fun i H2 _ p => hG H1 H2 p.2.1 g1)
    (fun i x H2 H3 hi p y => by
      obtain ⟨p1, p2, ad, p3, p4, p5⟩ := p
      obtain ⟨e3, k⟩ := ht i x H2 H3 ((e.trans e1).trans p2) hi (hG H1 H2 p2 g1) y
      refine k _ fun σ2 hw h1 h2 => ⟨hw, ?_⟩
      refine h1 H3 (Ex.refl H3) _ fun H4 e4 => ?_
      have e34 := e3.trans e4
      cases hf : f i with
      | false =>
        rw [if_neg (by simp)]
        have el : (List.range (i + 1)).filter f = (List.range i).filter f := by rw [List.range_succ, List.filter_append, List.filter_cons, if_neg (by rw [hf]; decide)]; simp
        exact ⟨p1, p2.trans e34, ad, by rw [el]; exact e34 _ _ p3, by rw [el]; exact p4.ex e34, by rw [el]; exact p5⟩
      | true =>
        rw [if_pos rfl]
        have el : ((List.range (i + 1)).filter f).map c = ((List.range i).filter f).map c ++ [c i] := by rw [List.range_succ, List.filter_append, List.filter_cons, if_pos hf, List.map_append]; rfl
        refine h2 hf H4 e4 H4 (Ex.refl _) _ fun u H5 e5 r => ?_
        obtain ⟨q', rfl, hq0, hq⟩ := r
        have e35 := e34.trans e5
        have hz : (((List.range i).filter f).map c).length ≤ i := by
          rw [List.length_map]
          have := List.length_filter_le f (List.range i)
          rw [List.length_range] at this
          exact this
        have qD : q' ≠ Dl := fun z => by rw [z, e34 _ _ p3] at hq0; cases hq0
        refine ⟨_, e35 _ _ p3, sz_lt (by rw [refs_len]; omega), p1, Ex.mut (p2.trans e35) p1, fun j => if j = (((List.range i).filter f).map c).length then q' else ad j, ?_, fun j d hj => ?_, fun j hj => ?_⟩
        · rw [upd_same, el, List.length_append]
          show some _ = some (HO.lst (refs _ ((((List.range i).filter f).map c).length + 1)))
          rw [refs_succ, if_pos rfl, refs_congr fun j hj => ?_]
          rw [if_neg (Nat.ne_of_lt hj)]
        · unfold CpAt
          rw [el] at hj
          by_cases hj' : j = (((List.range i).filter f).map c).length
          · rw [hj', List.getElem?_append_right (Nat.le_refl _), Nat.sub_self] at hj
            cases hj
            dsimp only
            rw [if_pos hj', upd_ne qD]
            exact hq
          · have hlt : j < (((List.range i).filter f).map c).length := by
              have := (List.getElem?_eq_some_iff.mp hj).1
              rw [List.length_append] at this
              simp only [List.length_cons, List.length_nil] at this
              omega
            rw [List.getElem?_append_left hlt] at hj
            dsimp only
            rw [if_neg hj', upd_ne (p5 j hlt)]
            exact e35 _ _ (p4 j d hj)
        · by_cases hj' : j = (((List.range i).filter f).map c).length
          · dsimp only
            rw [if_pos hj']
            exact qD
          · dsimp only
            rw [if_neg hj']
            refine p5 j ?_
            rw [el, List.length_append] at hj
            simp only [List.length_cons, List.length_nil] at hj
            omega) fun H2 p => by
    obtain ⟨p1, p2, ad, p3, p4, _⟩ := p
    exact q Dl H2 ad (fresh_back e1 p1) (e1.trans p2) p3 p4
theorem range_by {α β : Type} (f : α → Bool) (g : α → β) (d : α) (xs : List α) : ((List.range xs.length).filter fun i => f (xs[i]?.getD d)).map (fun i => g (xs[i]?.getD d)) = (xs.filter f).map g := by
  have hm : (List.range xs.length).map (fun i => xs[i]?.getD d) = xs := by
    refine List.ext_getElem (by simp) fun i h1 h2 => ?_
    simp [h2]
  conv => rhs; rw [← hm]
  rw [List.filter_map, List.map_map]
  rfl
/-- over a tuple of texts -/
theorem ec_S {a : Addr} {xs : List Str} {j : Nat} {vs : List Nat} {tl : TE} (f : Str → Bool) (g : Str → Str × Int) (h : Ev tl σ H (.ref a)) (hx : SqT K H a (xs.map V.str)) (hz : xs.length ≤ 40000) (hw : ∀ x, wipe ((wipe σ vs).set j (some x)) vs = wipe σ vs)
    (ht : ∀ x H1, Ex H H1 → x ∈ xs → EvT tt ((wipe σ vs).set j (some (.str x))) H1 (f x)) (he : ∀ x H1, Ex H H1 → x ∈ xs → f x = true → EvU te ((wipe σ vs).set j (some (.str x))) H1 [.str (g x).1, .int (g x).2]) :
    EvC (tLc (iTup K tl) (gName j) tt te vs) σ H ((xs.filter f).map g) := by
  have wk := walk_tup (K := K) (a := a) (xs := xs.map V.str)
  rw [List.length_map] at wk
  rw [← range_by f g Str.empty xs]
  refine ec_W (fun i => f (xs[i]?.getD Str.empty)) (fun i => g (xs[i]?.getD Str.empty)) wk hz (fun H1 e R k => h H1 e _ fun H2 e2 => ⟨a, rfl, ⟨_, ex_t (e.trans e2) hx⟩, k H2 e2 (ex_t (e.trans e2) hx)⟩) (fun H1 H2 e h => ex_t e h) fun i x H1 H2 e hi _ y => ?_
  obtain ⟨rfl, e1⟩ := y
  obtain ⟨s, hs, rfl⟩ := map_str_at e1
  have hm : s ∈ xs := List.mem_of_getElem? hs
  refine ⟨Ex.refl _, fun R k => k _ (hw _) ?_ fun hf H3 e3 => ?_⟩
  · rw [hs]
    exact ht s _ e hm
  · rw [hs] at hf ⊢
    exact evp_cp (he s _ (e.trans e3) hm hf)
theorem ec_L {a : Addr} {xs : List Str} {j : Nat} {vs : List Nat} {tl : TE} (f : Str → Bool) (g : Str → Str × Int) (h : Ev tl σ H (.ref a)) (hx : SqL K H a (xs.map V.str)) (hz : xs.length ≤ 40000) (hw : ∀ x, wipe ((wipe σ vs).set j (some x)) vs = wipe σ vs)
    (ht : ∀ x H1, Ex H H1 → x ∈ xs → EvT tt ((wipe σ vs).set j (some (.str x))) H1 (f x)) (he : ∀ x H1, Ex H H1 → x ∈ xs → f x = true → EvU te ((wipe σ vs).set j (some (.str x))) H1 [.str (g x).1, .int (g x).2]) :
    EvC (tLc (iList K tl) (gName j) tt te vs) σ H ((xs.filter f).map g) := by
  have wk := walk_list (K := K) (a := a) (xs := xs.map V.str)
  rw [List.length_map] at wk
  rw [← range_by f g Str.empty xs]
  refine ec_W (fun i => f (xs[i]?.getD Str.empty)) (fun i => g (xs[i]?.getD Str.empty)) wk hz (fun H1 e R k => h H1 e _ fun H2 e2 => ⟨a, rfl, ⟨_, ex_l (e.trans e2) hx⟩, k H2 e2 (ex_l (e.trans e2) hx)⟩) (fun H1 H2 e h => ex_l e h) fun i x H1 H2 e hi _ y => ?_
  obtain ⟨rfl, e1⟩ := y
  obtain ⟨s, hs, rfl⟩ := map_str_at e1
  have hm : s ∈ xs := List.mem_of_getElem? hs
  refine ⟨Ex.refl _, fun R k => k _ (hw _) ?_ fun hf H3 e3 => ?_⟩
  · rw [hs]
    exact ht s _ e hm
  · rw [hs] at hf ⊢
    exact evp_cp (he s _ (e.trans e3) hm hf)
/-- over a tuple of copies, taken apart -/
theorem ec_C {a : Addr} {xs : List (Str × Int)} {i j : Nat} {vs : List Nat} {tl : TE} (f : Str × Int → Bool) (g : Str × Int → Str × Int) (h : Ev tl σ H (.ref a)) (hx : CpsAt K H a xs) (hz : xs.length ≤ 40000) (hw : ∀ x y, wipe (((wipe σ vs).set i (some x)).set j (some y)) vs = wipe σ vs)
    (ht : ∀ x H1, Ex H H1 → x ∈ xs → EvT tt (((wipe σ vs).set i (some (.str x.1))).set j (some (.int x.2))) H1 (f x)) (he : ∀ x H1, Ex H H1 → x ∈ xs → f x = true → EvU te (((wipe σ vs).set i (some (.str x.1))).set j (some (.int x.2))) H1 [.str (g x).1, .int (g x).2]) :
    EvC (tLc (iTup K tl) (gPair K i j) tt te vs) σ H ((xs.filter f).map g) := by
  obtain ⟨ad, hx1, hx2⟩ := hx.ex_
  have wk := walk_tup (K := K) (a := a) (xs := (List.range xs.length).map fun i => V.ref (ad i))
  rw [List.length_map, List.length_range] at wk
  rw [← range_by f g (Str.empty, 0) xs]
  refine ec_W (fun i => f (xs[i]?.getD (Str.empty, 0))) (fun i => g (xs[i]?.getD (Str.empty, 0))) wk hz (fun H1 e R k => h H1 e _ fun H2 e2 => ⟨a, rfl, ⟨_, ex_t (e.trans e2) hx1⟩, k H2 e2 (ex_t (e.trans e2) hx1)⟩) (fun H1 H2 e h => ex_t e h) fun n x H1 H2 e hi _ y => ?_
  obtain ⟨rfl, e1⟩ := y
  have hs : xs[n]? = some xs[n] := List.getElem?_eq_getElem hi
  have hm : xs[n] ∈ xs := List.getElem_mem hi
  rw [List.getElem?_map, List.getElem?_range hi] at e1
  cases e1
  refine ⟨Ex.refl _, fun R k => ⟨ad n, _, rfl, st_of (e _ _ (hx2 n _ hs)), rfl, .str xs[n].1, _, rfl, .int xs[n].2, [], rfl, rfl, k _ (hw _ _) ?_ fun hf H3 e3 => ?_⟩⟩
  · rw [hs]
    exact ht _ _ e hm
  · rw [hs] at hf ⊢
    exact evp_cp (he _ _ (e.trans e3) hm hf)
end
/-! ### keeps -/
def keF (b : Addr) (m : Int) (o be byy ky : Addr) (z : Str) : List (Str × V) := [("base", .ref b), ("many", .int m), ("order", .ref o), ("below", .ref be), ("by", .ref byy), ("key", .ref ky), ("shown", .str z)]
/-- the rows that are kept, in the sheet's order -/
def keyL (rows ks : List Str) : List Str := rows.filter fun r => decide (r ∈ ks)
/-- the copies of these rows -/
def cpsOf (c : Str → Int) (ks : List Str) : List (Str × Int) := ks.map fun r => (r, c r)
structure KeepAt (K : PySem.W.Frag) (H : Hp) (a s : Addr) (rows : List Str) (nd : Str → List Str) (m : Int) (ks : List Str) (c : Str → Int) : Prop where
  ex_ : ∃ (dx o be byy ky : Addr) (z : Str) (bks : List Str) (bl : Str → List Str), H a = some (.ins (cK K) dx (keF s m o be byy ky z)) ∧ ShAt (cS K) H s rows nd ∧ OrdAt H o rows ∧ BlAt H be bks bl ∧ (∀ r, r ∈ bks ↔ r ∈ rows) ∧ (∀ r ∈ bks, ∀ p, p ∈ bl r ↔ Dep nd p r) ∧
    H byy = some (.dK (dO ks fun r => .int (c r))) ∧ CpsAt K H ky (cpsOf c (keyL rows ks))
theorem KeepAt.ex {K : PySem.W.Frag} {H H' : Hp} {a s : Addr} {rows : List Str} {nd : Str → List Str} {m : Int} {ks : List Str} {c : Str → Int} (k : KeepAt K H a s rows nd m ks c) (e : Ex H H') : KeepAt K H' a s rows nd m ks c := by
  obtain ⟨dx, o, be, byy, ky, z, bks, bl, h1, h2, h3, h4, h5, h6, h7, h8⟩ := k.ex_
  exact ⟨dx, o, be, byy, ky, z, bks, bl, e _ _ h1, h2.ex e, e _ _ h3, h4.ex e, h5, h6, e _ _ h7, h8.ex e⟩
/-- the data of a keep: no copy bars another one -/
structure KOk (rows : List Str) (nd : Str → List Str) (m : Int) (ks : List Str) (c : Str → Int) : Prop where
  nod : ks.Nodup
  sub : ∀ r ∈ ks, r ∈ rows
  rng : ∀ r ∈ ks, 1 ≤ c r ∧ c r ≤ m
  bar : ∀ r ∈ ks, ∀ s ∈ ks, Dep nd r s → c r < c s ∨ (c r = c s ∧ ix rows r < ix rows s)
theorem KOk.len {rows : List Str} {nd : Str → List Str} {m : Int} {ks : List Str} {c : Str → Int} (k : KOk rows nd m ks c) (S : Sht rows nd) : ks.length ≤ 12 := Nat.le_trans (len_sub k.nod k.sub) S.len
theorem mem_keyL {rows ks : List Str} {r : Str} : r ∈ keyL rows ks ↔ r ∈ rows ∧ r ∈ ks := by
  unfold keyL
  rw [List.mem_filter]
  exact ⟨fun h => ⟨h.1, of_decide_eq_true h.2⟩, fun h => ⟨h.1, decide_eq_true h.2⟩⟩
/-- no copy bars another one, as the program asks -/
theorem KOk.nobar {rows : List Str} {nd : Str → List Str} {m : Int} {ks : List Str} {c : Str → Int} (k : KOk rows nd m ks c) {bl : Str → List Str} {r s : Str} (hr : r ∈ ks) (hs : s ∈ ks) (hb : ∀ p, p ∈ bl s ↔ Dep nd p s) : barB rows bl (r, c r) (s, c s) = false := by
  unfold barB
  dsimp only
  by_cases e : r = s
  · subst e
    rw [if_pos rfl, decide_eq_false (Nat.lt_irrefl _), Bool.and_false]
  · rw [decide_eq_false e, Bool.false_or]
    by_cases h : r ∈ bl s
    · rcases k.bar r hr s hs ((hb r).mp h) with z | ⟨z1, z2⟩
      · rw [if_neg (by omega), decide_eq_false (p := c s < c r) (by omega), Bool.and_false]
      · rw [if_pos z1, decide_eq_false (p := ix rows s < ix rows r) (by omega), Bool.and_false]
    · rw [decide_eq_false h, Bool.false_and]
theorem mergeK_dO (v : Str → V) : ∀ (more done : List Str), (done ++ more).Nodup → mergeK (dO done v) (dO more v) = dO (done ++ more) v
  | [], done, _ => by rw [List.append_nil]; rfl
  | r :: more, done, h => by
    have hn : r ∉ done := fun hm => (List.nodup_append.mp h).2.2 r hm r List.mem_cons_self rfl
    have e : done ++ r :: more = (done ++ [r]) ++ more := by simp
    show mergeK (putK (dO done v) (Sum.inr r) (v r)) (dO more v) = _
    rw [putK_dO hn, show dO (done ++ [r]) (fun q => if q = r then v r else v q) = dO (done ++ [r]) v from dO_congr fun q _ => by
      by_cases z : q = r
      · rw [if_pos z, z]
      · rw [if_neg z], mergeK_dO v more (done ++ [r]) (e ▸ h), e]
end K29
set_option Elab.async false
set_option linter.all false
set_option maxRecDepth 100000
set_option maxHeartbeats 4000000
/-! Keep.__init__. -/
namespace K29
open PySem PySem.Spec PyProof.Rows L2 Evl
section
variable {b o be byy ky : Addr} {m : Int} {z : Str}
theorem keF_base : (keF b m o be byy ky z).lookup ("base" : Str) = some (.ref b) := rfl
theorem keF_many : (keF b m o be byy ky z).lookup ("many" : Str) = some (.int m) := rfl
theorem keF_order : (keF b m o be byy ky z).lookup ("order" : Str) = some (.ref o) := rfl
theorem keF_below : (keF b m o be byy ky z).lookup ("below" : Str) = some (.ref be) := rfl
theorem keF_by : (keF b m o be byy ky z).lookup ("by" : Str) = some (.ref byy) := rfl
theorem keF_key : (keF b m o be byy ky z).lookup ("key" : Str) = some (.ref ky) := rfl
end
/-- another object than an instance stands elsewhere -/
theorem ne_ins {H : Hp} {a x C dx : Addr} {fs : List (Str × V)} {o : HO} (ha : H a = some (.ins C dx fs)) (hx : H x = some o) (ho : o ≠ .ins C dx fs) : x ≠ a := fun z => by
  rw [z, ha] at hx
  exact ho (Option.some.inj hx).symm
theorem exb {H H' : Hp} {a x C dx : Addr} {fs : List (Str × V)} {o : HO} (e : ExB a H H') (ha : H a = some (.ins C dx fs)) (hx : H x = some o) (ho : o ≠ .ins C dx fs) : H' x = some o := e x o (ne_ins ha hx ho) hx
theorem ShAt.exB {CS : Addr} {H H' : Hp} {a s C dx : Addr} {rows : List Str} {nd : Str → List Str} (S : ShAt CS H s rows nd) (e : ExB a H H') (ha : H a = some (.ins C dx [])) : ShAt CS H' s rows nd := by
  obtain ⟨dy, n, d, o, z, ad, h1, h2, h3⟩ := S.ex_
  exact ⟨dy, n, d, o, z, ad, exb e ha h1 (fun z => by injection z with _ _ z; cases z), ⟨h2.ln, h2.ld, exb e ha h2.hn (fun z => nomatch z), exb e ha h2.hd (fun z => nomatch z), fun r hr => exb e ha (h2.ha r hr) (fun z => nomatch z)⟩, exb e ha h3 (fun z => nomatch z)⟩
theorem CpsIn.exB {H H' : Hp} {a C dx : Addr} {fs : List (Str × V)} {ad : Nat → Addr} {cs : List (Str × Int)} (h : CpsIn H ad cs) (e : ExB a H H') (ha : H a = some (.ins C dx fs)) : CpsIn H' ad cs := fun i c hc => exb e ha (h i c hc) (fun z => nomatch z)
theorem BlAt.exB {H H' : Hp} {a C dx d : Addr} {fs : List (Str × V)} {ks : List Str} {bl : Str → List Str} (B : BlAt H d ks bl) (e : ExB a H H') (ha : H a = some (.ins C dx fs)) : BlAt H' d ks bl := by
  obtain ⟨ad, h1, h2⟩ := B.ex_
  exact ⟨ad, exb e ha h1 (fun z => nomatch z), fun r hr => exb e ha (h2 r hr) (fun z => nomatch z)⟩
theorem cps_len (c : Str → Int) (ks : List Str) : (cpsOf c ks).length = ks.length := List.length_map _
theorem cps_at {c : Str → Int} {ks : List Str} {i : Nat} {d : Str × Int} (h : (cpsOf c ks)[i]? = some d) : ∃ r, ks[i]? = some r ∧ d = (r, c r) := by
  unfold cpsOf at h
  rw [List.getElem?_map] at h
  cases e : ks[i]? with
  | none => rw [e] at h; cases h
  | some r => rw [e] at h; exact ⟨r, rfl, (Option.some.inj h).symm⟩
theorem mem_cps {c : Str → Int} {ks : List Str} {d : Str × Int} (h : d ∈ cpsOf c ks) : d.1 ∈ ks ∧ d.2 = c d.1 := by
  obtain ⟨r, hr, rfl⟩ := List.mem_map.mp h
  exact ⟨hr, rfl⟩
theorem cps_nd {c : Str → Int} {ks : List Str} (h : ks.Nodup) : (cpsOf c ks).Nodup := by
  unfold cpsOf
  rw [List.nodup_iff_pairwise_ne, List.pairwise_map]
  exact h.imp fun hne e => hne (Prod.mk.inj e).1
theorem putF_new {f : Str} {v : V} : ∀ {fs : List (Str × V)} {ns : List Str}, fs.map (·.1) = ns → ¬ f ∈ ns → putF f v fs = fs ++ [(f, v)]
  | [], _, _, _ => rfl
  | (g, x) :: r, _, e, h => by
    subst e
    have h1 : ¬ g = f := fun z => h (List.mem_cons.mpr (.inl z.symm))
    unfold putF
    rw [if_neg h1, putF_new (fs := r) rfl fun z => h (List.mem_cons_of_mem _ z)]
    rfl
abbrev kf1 (s : Addr) : List (Str × V) := [("base", .ref s)]
abbrev kf2 (s : Addr) (k : Int) : List (Str × V) := [("base", .ref s), ("many", .int k)]
abbrev kf3 (s : Addr) (k : Int) (o : Addr) : List (Str × V) := [("base", .ref s), ("many", .int k), ("order", .ref o)]
abbrev kf4 (s : Addr) (k : Int) (o b : Addr) : List (Str × V) := [("base", .ref s), ("many", .int k), ("order", .ref o), ("below", .ref b)]
abbrev kf5 (s : Addr) (k : Int) (o b y : Addr) : List (Str × V) := [("base", .ref s), ("many", .int k), ("order", .ref o), ("below", .ref b), ("by", .ref y)]
abbrev kf6 (s : Addr) (k : Int) (o b y q : Addr) : List (Str × V) := [("base", .ref s), ("many", .int k), ("order", .ref o), ("below", .ref b), ("by", .ref y), ("key", .ref q)]
theorem new_many {s : Addr} {k : Int} : putF "many" (.int k) (kf1 s) = (kf2 s k) := putF_new (ns := ["base"]) rfl (by decide +kernel)
theorem new_order {s o : Addr} {k : Int} : putF "order" (.ref o) (kf2 s k) = (kf3 s k o) := putF_new (ns := ["base", "many"]) rfl (by decide +kernel)
theorem new_below {s o b : Addr} {k : Int} : putF "below" (.ref b) (kf3 s k o) = (kf4 s k o b) := putF_new (ns := ["base", "many", "order"]) rfl (by decide +kernel)
theorem new_by {s o b y : Addr} {k : Int} : putF "by" (.ref y) (kf4 s k o b) = (kf5 s k o b y) := putF_new (ns := ["base", "many", "order", "below"]) rfl (by decide +kernel)
theorem new_key {s o b y q : Addr} {k : Int} : putF "key" (.ref q) (kf5 s k o b y) = (kf6 s k o b y q) := putF_new (ns := ["base", "many", "order", "below", "by"]) rfl (by decide +kernel)
theorem new_shown {s o b y q : Addr} {k : Int} {z : Str} : putF "shown" (.str z) (kf6 s k o b y q) = keF s k o b y q z := putF_new (ns := ["base", "many", "order", "below", "by", "key"]) rfl (by decide +kernel)
theorem evp_tupC {K : PySem.W.Frag} {σ : L2.St} {H : Hp} {te : TE} {cs : List (Str × Int)} (h : EvC te σ H cs) : EvP (tCB (fun xs H Q => ∃ p ys, xs = [.ref p] ∧ ((SqL K H p ys ∧ ∀ l, H l = none → Q (.ref l) (upd H l (.tup ys))) ∨ (SqT K H p ys ∧ Q (.ref p) H))) (tCons te tNil)) σ H (fun v H2 => ∃ q, v = .ref q ∧ CpsAt K H2 q cs) := fun H1 e Q q =>
  h H1 e _ fun p H2 ad _ e2 h2 hc => ⟨p, _, rfl, .inl ⟨sq_of h2, fun l hl => q _ _ (e2.trans (Ex.new hl)) ⟨l, rfl, (hc.ex (Ex.new hl)).at (st_of upd_same)⟩⟩⟩
theorem new_base {s : Addr} : putF "base" (.ref s) [] = kf1 s := rfl
section
variable {K : PySem.W.Frag} {σ : L2.St} {H H' : Hp} {te ta tv : TE} {D : Ends} {tz : TS} {a C dx : Addr} {fs fs' : List (Str × V)} {f : Str}
theorem q_fldX {y : V} (h : Ev tv σ H y) (ho : Ev ta σ H (.ref a)) (ha : H a = some (.ins C dx fs)) (c : Cls K C) (n : NoAttr K C f) (hf : putF f y fs = fs')
    (k : ∀ H1, Ex H H1 → tz D σ (upd H1 a (.ins C dx fs'))) (hl : fs.length ≤ 10 := by exact Nat.le_of_ble_eq_true rfl) : tSeq (sFld K ta tv f) tz D σ H := q_fld h ho ha c n (by omega) fun H1 e => hf ▸ k H1 e
theorem q_fldPX {R : V → Hp → Prop} (hR : ∀ y H1 H2, Ex H1 H2 → R y H1 → R y H2) (h : EvP tv σ H R) (ho : Ev ta σ H (.ref a)) (ha : H a = some (.ins C dx fs)) (c : Cls K C) (n : NoAttr K C f)
    (k : ∀ y H1, Ex H H1 → R y H1 → ∃ fs', putF f y fs = fs' ∧ tz D σ (upd H1 a (.ins C dx fs'))) (hl : fs.length ≤ 10 := by exact Nat.le_of_ble_eq_true rfl) : tSeq (sFld K ta tv f) tz D σ H := q_fldP hR h ho ha c n (by omega) fun y H1 e r => by
  obtain ⟨fs', e1, e2⟩ := k y H1 e r
  rw [e1]
  exact e2
theorem s_fldPX {R : V → Hp → Prop} (hR : ∀ y H1 H2, Ex H1 H2 → R y H1 → R y H2) (h : EvP tv σ H R) (ho : Ev ta σ H (.ref a)) (ha : H a = some (.ins C dx fs)) (c : Cls K C) (n : NoAttr K C f)
    (k : ∀ y H1, Ex H H1 → R y H1 → ∃ fs', putF f y fs = fs' ∧ D.nx σ (upd H1 a (.ins C dx fs'))) (hl : fs.length ≤ 10 := by exact Nat.le_of_ble_eq_true rfl) : sFld K ta tv f D σ H := s_fldP hR h ho ha c n (by omega) fun y H1 e r => by
  obtain ⟨fs', e1, e2⟩ := k y H1 e r
  rw [e1]
  exact e2
end
theorem Room_.imp {K : PySem.W.Frag} {n : Nat} {k : Int} {H : Hp} {E : XK} {ok ok' : Prop} (R : Room_ K n k H E ok) (h : ok → ok') : Room_ K n k H E ok' := ⟨fun a b => h (R.good a b), R.bad, R.many⟩
theorem Room_.impR {K : PySem.W.Frag} {n : Nat} {k : Int} {H : Hp} {E : XK} {ok ok' : Prop} (R : Room_ K n k H E ok) (h : 1 ≤ k ∧ k ≤ 60 → (n : Int) * k ≤ 120 → ok → ok') : Room_ K n k H E ok' := ⟨fun a b => h a b (R.good a b), R.bad, R.many⟩
section
variable {P : Program} {w : World} {K : PySem.W.Frag} {mg : Str → Option Value} {base : Heap}
abbrev nsK : List Str := ["self", "sheet", "passes", "copies", "one", "other", "name"]
theorem sc_Keep_init : FnScope nsK (((["self", "sheet", "passes"] : List Str)) ++ (["copies"] : List Str)) (defScope s_Keep_init) := ⟨rfl, rfl, rfl, by decide +kernel, rfl, by decide +kernel, by decide +kernel⟩
/-- what is told of a keep that is being made -/
def spKI (K : PySem.W.Frag) : Sp := fun vs H Q E => ∃ (a dx s t : Addr) (k : Int) (rows : List Str) (nd : Str → List Str) (ks : List Str) (c : Str → Int) (ad : Nat → Addr), vs = [.ref a, .ref s, .int k, .ref t] ∧ H a = some (.ins (cK K) dx []) ∧ ShAt (cS K) H s rows nd ∧ Sht rows nd ∧
  StarAt H t (refs ad ks.length) ∧ CpsIn H ad (cpsOf c ks) ∧ Room_ K rows.length k H E (KOk rows nd k ks c ∧ ∀ H2, ExB a H H2 → KeepAt K H2 a s rows nd k ks c → Q .non H2)
theorem passE {X : Cx} {E : XK} (hs : X.stack = X.env :: X.outer) (hf : X.env.frame = some X.env.locals) (hex : X.ex = []) {E₁ : Value → Shared → Prop}
    (hx : X.xe = fun e s' => wpAny (model X.prog X.w) X.A (leaving X.env e) (fun _ s'' => L2.CX X.prog X.w X.outer X.H_0 X.s_0 E e s'') E₁ s') : Passes (L2.CX X.prog X.w) X E := passes_call (takes_of hs hf hex hx) (fun _ _ _ _ h => h)
theorem ok_KI (T : Tx K mg) : FnR P w K mg base (L2.CX P w) 6 (He.ma K (cK K) "__init__") (fun vs H Q E => ∃ ws rest, vs = ws ++ rest ∧ ws.length = (["self", "sheet", "passes"] : List Str).length ∧ rest.length ≤ sizeLine ∧ ∀ p us, H p = Option.none → spKI K (ws ++ [V.ref p]) (upd H p (.frz (stO us) (.tup rest))) Q E) := by
  have G1 := ok_need_room (P := P) (w := w) (base := base) T
  have G2 := ok_need_copies (P := P) (w := w) (base := base) T
  have G3 := ok_closure (P := P) (w := w) (base := base) T
  have G4 := ok_is_bar (P := P) (w := w) (base := base) T
  have G5 := ok_Sheet_rows (P := P) (w := w) (base := base) T
  have G6 := ok_copies_text (P := P) (w := w) (base := base) T
  obtain ⟨_, D1⟩ := T.d_need_room
  obtain ⟨_, D2⟩ := T.d_need_copies
  obtain ⟨_, D3⟩ := T.d_closure
  obtain ⟨_, D4⟩ := T.d_is_bar
  obtain ⟨_, D6⟩ := T.d_copies_text
  refine fd_star (pv := "copies") (ps := ["self", "sheet", "passes"]) (N := nsK) (k := 5) (CX := L2.CX P w) (sp := spKI K) T.d_Keep_init sc_Keep_init StX.cxUp (fun _ _ _ _ _ _ us rest hl => match us, rest, hl with | [_, _, _], [], _ => rfl | [_, _, _], _ :: _, _ => rfl) fun cdv A outer s H vs Q E hr h => ?_
  obtain ⟨a, dx, s, t, kk, rows, nd, ks, c, ad, rfl, ha, S, D, ht, hc, R⟩ := h
  have hu := hu_of hr
  refine ⟨_, pss_cons (ps_expr (pe_fn G1 (hr.mono (by decide)) (by rfl) T.g_need_room D1.kp (passE (E := E) rfl rfl rfl rfl) (pa_cons (pv 1) (pa_cons (pv 2) pa_nil))))
    (pss_cons (ps_expr (pe_fn G2 (hr.mono (by decide)) (by rfl) T.g_need_copies D2.kp pass0 (pa_cons (pv 1) (pa_cons (pv 2) (pa_cons (pv 3) pa_nil)))))
    (pss_cons (ps_fld (pv 0) (pv 1) rfl)
    (pss_cons (ps_fld (pv 0) (pv 2) rfl)
    (pss_cons (ps_fld (pv 0) (pe_fld (pv 1) rfl) rfl)
    (pss_cons (ps_fld (pv 0) (pe_fn G3 (hr.mono (by decide)) (by rfl) T.g_closure D3.kp pass0 (pa_cons (pv 1) pa_nil)) rfl)
    (pss_cons (ps_for (passes_of rfl) rfl (pi_tup (pv 3)) (pg_name (i := 4) sc_Keep_init.nd rfl (Or.inl rfl))
      (pss_one (ps_for (passes_of rfl) rfl (pi_tup (pv 3)) (pg_name (i := 5) sc_Keep_init.nd rfl (Or.inl rfl))
        (pss_one (ps_if (pt_val (pe_fn G4 (hr.mono (by decide)) (by rfl) T.g_is_bar D4.kp pass0 (pa_cons (pe_fld (pv 0) rfl) (pa_cons (pe_fld (pv 0) rfl) (pa_cons (pv 4) (pa_cons (pv 5) pa_nil)))))) pss_dead pss_nil)))))
    (pss_cons (ps_fld (pv 0) (pe_callTy (call_dictU rfl) (by rfl) T.f_dict cs_dict (pa_cons (pv 3) pa_nil)) rfl)
    (pss_cons (ps_fld (pv 0) (pe_callTy call_tuple_of (by rfl) T.f_tuple cs_tuple (pa_cons (pe_lc (own := [("name", 6)]) (g := gName 6) (tt := tB (tDIn (tVar 6) (tFld K (tVar 0) "by"))) (te := tTup (tCons (tVar 6) (tCons (tDGet (tFld K (tVar 0) "by") (tVar 6)) tNil))) rfl sc_Keep_init.nd
        (pi_tup (pe_get (E := E0) (pv 1) T.c_Sheet T.p_Sheet_rows G5 (hr.mono (by decide)))) (blkOk_by (own := [("name", 6)]) (N := nsK) (sc := defScope s_Keep_init) (by decide +kernel)) (fun _ _ _ _ _ => pg_name (i := 6) sc_Keep_init.nd rfl (Or.inl rfl))
        (fun _ _ _ _ _ => pts_one (pt_cmp (pc_din hu (pv 6) (pe_fld (pv 0) rfl)) rfl)) (fun _ _ _ _ _ => pe_tup (pa_cons (pv 6) (pa_cons (pe_dget hu (pe_fld (pv 0) rfl) (pv 6) (fun _ _ => rfl)) pa_nil)))) pa_nil)) rfl)
    (pss_one (ps_fld (pv 0) (pe_fn G6 (hr.mono (by decide)) (by rfl) T.g_copies_text D6.kp pass0 (pa_cons (pe_fld (pv 0) rfl) pa_nil)) rfl)))))))))), ?_⟩
  have hcl : (cpsOf c ks).length = ks.length := cps_len c ks
  refine ⟨.ref s, rfl, .int kk, rfl, s, rows, nd, kk, rfl, S, by have := D.len; omega, R.impR fun ⟨_, k60⟩ _ ⟨O, fin⟩ H1 e1 => ?_⟩
  have S1 := S.ex e1
  have ha1 := e1 _ _ ha
  have ct : CpsAt K H t (cpsOf c ks) := ⟨ad, by rw [hcl]; exact ht.t, hc⟩
  have ol := O.len D
  change tSeq _ _ _ [some (.ref a), some (.ref s), some (.int kk), some (.ref t), none, none, none] H1
  have hmem : ∀ d ∈ cpsOf c ks, d.1 ∈ rows ∧ 1 ≤ d.2 ∧ d.2 ≤ kk := fun d hd => by
    obtain ⟨d1, d2⟩ := mem_cps hd
    rw [d2]
    exact ⟨O.sub _ d1, O.rng _ d1⟩
  refine q_drop (ev_fn (vs := [.ref s, .int kk, .ref t]) (ea_cons (ev_var rfl) (ea_cons (ev_var rfl) (ea_cons (ev_var rfl) ea_nil))) fun H2 e Q k => ⟨s, t, kk, rows, nd, cpsOf c ks, rfl, S1.ex e, D.nam, ct.ex (e1.trans e), cps_nd O.nod, by omega, hmem, k⟩) fun H2 e2 => ?_
  obtain ⟨dy, n, d, o, z, ad0, hs1, hs2, hs3⟩ := (S1.ex e2).ex_
  -- base, many, order
  refine q_fldX (fs' := kf1 s) (ev_var rfl) (ev_var rfl) (e2 _ _ ha1) T.c_Keep T.n_Keep_base new_base fun H3 e3 => ?_
  have b3 : ExB a H (upd H3 a (.ins (cK K) dx (kf1 s))) := (ExB.ex ((e1.trans e2).trans e3)).trans ExB.upd
  refine q_fldX (y := .int kk) (fs' := kf2 s kk) (ev_var rfl) (ev_var rfl) upd_same T.c_Keep T.n_Keep_many new_many fun H4 e4 => ?_
  have b4 := b3.trans ((ExB.ex e4).trans (ExB.upd (o := .ins (cK K) dx (kf2 s kk))))
  have hs4 : (upd H4 a (.ins (cK K) dx (kf2 s kk))) s = some (.ins (cS K) dy (shF n d o z)) := exb (((ExB.ex e3).trans ExB.upd).trans ((ExB.ex e4).trans ExB.upd)) (e2 _ _ ha1) hs1 (fun z => by injection z with _ _ z; cases z)
  refine q_fldX (y := .ref o) (fs' := kf3 s kk o) (ev_fld (ev_var rfl) hs4 T.c_Sheet T.n_Sheet_order shF_order) (ev_var rfl) upd_same T.c_Keep T.n_Keep_order new_order fun H5 e5 => ?_
  have b5 := b4.trans ((ExB.ex e5).trans (ExB.upd (o := .ins (cK K) dx (kf3 s kk o))))
  have hso : OrdAt (upd H5 a (.ins (cK K) dx (kf3 s kk o))) o rows := exb ((((ExB.ex e3).trans ExB.upd).trans ((ExB.ex e4).trans ExB.upd)).trans ((ExB.ex e5).trans ExB.upd)) (e2 _ _ ha1) hs3 (fun z => nomatch z)
  -- below
  have S5 := S.exB b5 ha
  have h5a : (upd H5 a (.ins (cK K) dx (kf3 s kk o))) a = some (.ins (cK K) dx (kf3 s kk o)) := upd_same
  generalize upd H5 a (.ins (cK K) dx (kf3 s kk o)) = H6 at *
  refine q_fldPX (R := Below rows nd) (fun y H1 H2 e h => by
    obtain ⟨q, bks, bl, r0, r1, r2, r3⟩ := h
    exact ⟨q, bks, bl, r0, r1.ex e, r2, r3⟩) (evp_fn (vs := [.ref s]) (ea_cons (ev_var rfl) ea_nil) fun H7 e Q k => ⟨s, rows, nd, rfl, S5.ex e, D, k⟩) (ev_var rfl) h5a T.c_Keep T.n_Keep_below fun y H7 e7 hy => ?_
  obtain ⟨be, bks, bl, rfl, B, hbk, hbl⟩ := hy
  refine ⟨kf4 s kk o be, new_below, ?_⟩
  have b7 := b5.trans ((ExB.ex e7).trans (ExB.upd (o := .ins (cK K) dx (kf4 s kk o be))))
  have B8 : BlAt (upd H7 a (.ins (cK K) dx (kf4 s kk o be))) be bks bl := B.exB ExB.upd (e7 _ _ h5a)
  have ho8 : OrdAt (upd H7 a (.ins (cK K) dx (kf4 s kk o be))) o rows := exb ((ExB.ex e7).trans ExB.upd) h5a hso (fun z => nomatch z)
  have h8a : (upd H7 a (.ins (cK K) dx (kf4 s kk o be))) a = some (.ins (cK K) dx (kf4 s kk o be)) := upd_same
  generalize upd H7 a (.ins (cK K) dx (kf4 s kk o be)) = H8 at *
  have ht8 : StarAt H8 t (refs ad ks.length) := by
    obtain ⟨us, hu⟩ := ht
    exact ⟨us, exb b7 ha hu (fun z => nomatch z)⟩
  have hc8 := hc.exB b7 ha
  -- the two loops
  have wk := walk_tup (K := K) (a := t) (xs := refs ad ks.length)
  rw [refs_len] at wk
  refine q_forWn wk (fun i σ' H' => Ex H8 H' ∧ ∃ x y, σ' = [some (.ref a), some (.ref s), some (.int kk), some (.ref t), x, y, none]) (fun R k' => ⟨.ref t, rfl, t, rfl, ⟨_, ht8.t⟩, k' H8 (Ex.refl H8) ⟨Ex.refl H8, _, _, rfl⟩⟩) (fun i σ' H' _ p => ex_t p.1 ht8.t) (fun i x σ' H9 H10 hi p y => ?_) fun σ' H9 p => ?_
  · obtain ⟨e9, x1, y1, rfl⟩ := p
    obtain ⟨rfl, hx⟩ := y
    rw [refs_at hi] at hx
    cases hx
    refine s_forWn wk (fun j σ' H' => Ex H8 H' ∧ ∃ y, σ' = [some (.ref a), some (.ref s), some (.int kk), some (.ref t), some (.ref (ad i)), y, none]) (fun R k' => ⟨.ref t, rfl, t, rfl, ⟨_, ex_t e9 ht8.t⟩, k' _ (Ex.refl _) ⟨e9, _, rfl⟩⟩) (fun j σ' H' _ p => ex_t p.1 ht8.t) (fun j x σ' H11 H12 hj p y => ?_) fun σ' H' p => ⟨p.1, _, _, p.2.choose_spec⟩
    obtain ⟨e11, y2, rfl⟩ := p
    obtain ⟨rfl, hx⟩ := y
    rw [refs_at hj] at hx
    cases hx
    have ri : (cpsOf c ks)[i]? = some (ks[i], c ks[i]) := by unfold cpsOf; rw [List.getElem?_map, List.getElem?_eq_getElem hi]; rfl
    have rj : (cpsOf c ks)[j]? = some (ks[j], c ks[j]) := by unfold cpsOf; rw [List.getElem?_map, List.getElem?_eq_getElem hj]; rfl
    have mi : ks[i] ∈ ks := List.getElem_mem hi
    have mj : ks[j] ∈ ks := List.getElem_mem hj
    have eb : Ev (tFn spIsBar E0 (tCons (tFld K (tVar 0) "order") (tCons (tFld K (tVar 0) "below") (tCons (tVar 4) (tCons (tVar 5) tNil))))) [some (.ref a), some (.ref s), some (.int kk), some (.ref t), some (.ref (ad i)), some (.ref (ad j)), none] H12 (.bl (barB rows bl (ks[i], c ks[i]) (ks[j], c ks[j]))) :=
      ev_fn (vs := [.ref o, .ref be, .ref (ad i), .ref (ad j)]) (ea_cons (ev_fld (ev_var rfl) (e11 _ _ h8a) T.c_Keep T.n_Keep_order rfl) (ea_cons (ev_fld (ev_var rfl) (e11 _ _ h8a) T.c_Keep T.n_Keep_below rfl) (ea_cons (ev_var rfl) (ea_cons (ev_var rfl) ea_nil)))) fun H13 e Q k =>
        ⟨o, be, ad i, ad j, rows, bks, bl, _, _, rfl, e _ _ (e11 _ _ ho8), (B8.ex e11).ex e, e _ _ (e11 _ _ (hc8 i _ ri)), e _ _ (e11 _ _ (hc8 j _ rj)), O.sub _ mi, O.sub _ mj, (hbk _).mpr (O.sub _ mj), k⟩
    change tIfS _ _ _ _ [some (.ref a), some (.ref s), some (.int kk), some (.ref t), some (.ref (ad i)), some (.ref (ad j)), none] H12
    refine s_if (D := { nx := fun σ' H' => Ex H8 H' ∧ ∃ y, σ' = [some (.ref a), some (.ref s), some (.int kk), some (.ref t), some (.ref (ad i)), y, none], rt := _, bk := _, ct := _ }) (b := false) (et_B (ev_is eb ?_)) (fun h => by cases h) fun _ H13 e13 => ⟨e11.trans e13, _, rfl⟩
    rw [O.nobar mi mj fun p => hbl _ ((hbk _).mpr (O.sub _ mj)) p]
  -- by, key, shown
  · obtain ⟨e9, x1, y1, rfl⟩ := p
    have edc : EvP (tCB (fun xs H Q => ∃ (a : Addr) (ps : List Addr) (kvs : List (Key × V)), xs = [.ref a] ∧ StarAt H a (ps.map V.ref) ∧ Paired (fun p kv => SqT K H p [kV kv.1, kv.2]) ps kvs ∧ ∀ p, H p = none → Q (.ref p) (upd H p (.dK (mergeK [] kvs)))) (tCons (tVar 3) tNil)) [some (.ref a), some (.ref s), some (.int kk), some (.ref t), x1, y1, none] H9 (fun v H2 => ∃ q, v = .ref q ∧ H2 q = some (.dK (dO ks fun r => .int (c r)))) := fun H10 e Q q => by
      refine ⟨.ref t, rfl, t, (List.range ks.length).map ad, dO ks fun r => .int (c r), rfl, ?_, ?_, fun p hp => ?_⟩
      · obtain ⟨us, hu⟩ := ht8
        refine ⟨us, e _ _ (e9 _ _ (hu.trans ?_))⟩
        unfold refs
        rw [List.map_map]
        rfl
      · have gen : ∀ (l : List Str) (f : Nat → Addr), (∀ i r, l[i]? = some r → H10 (f i) = some (.tup [.str r, .int (c r)])) → Paired (fun p kv => SqT K H10 p [kV kv.1, kv.2]) ((List.range l.length).map f) (dO l fun r => .int (c r)) := by
          intro l
          induction l with
          | nil => exact fun f _ => .nil
          | cons r l ih =>
            intro f hf
            rw [List.length_cons, List.range_succ_eq_map, List.map_cons, List.map_map]
            exact .cons (st_of (hf 0 r rfl)) (ih (f ∘ Nat.succ) fun i r' hr' => hf (i + 1) r' (by simpa using hr'))
        refine gen ks ad fun i r hr => e _ _ (e9 _ _ (hc8 i (r, c r) ?_))
        unfold cpsOf
        rw [List.getElem?_map, hr]
        rfl
      · have em : mergeK [] (dO ks fun r => V.int (c r)) = dO ks fun r => .int (c r) := mergeK_dO _ ks [] (by simpa using O.nod)
        rw [em]
        exact q _ _ (Ex.new hp) ⟨p, rfl, upd_same⟩
    refine q_fldPX (fun y H1 H2 e h => let ⟨q, r1, r2⟩ := h; ⟨q, r1, e _ _ r2⟩) edc (ev_var rfl) (e9 _ _ h8a) T.c_Keep T.n_Keep_by fun y H10 e10 hy => ?_
    obtain ⟨byy, rfl, hby⟩ := hy
    refine ⟨kf5 s kk o be byy, new_by, ?_⟩
    have e90 := e9.trans e10
    have b11 : ExB a H8 (upd H10 a (.ins (cK K) dx (kf5 s kk o be byy))) := (ExB.ex e90).trans ExB.upd
    have hby11 : (upd H10 a (.ins (cK K) dx (kf5 s kk o be byy))) byy = some (.dK (dO ks fun r => .int (c r))) := exb ExB.upd (e90 _ _ h8a) hby (fun z => nomatch z)
    have h11a : (upd H10 a (.ins (cK K) dx (kf5 s kk o be byy))) a = some (.ins (cK K) dx (kf5 s kk o be byy)) := upd_same
    generalize upd H10 a (.ins (cK K) dx (kf5 s kk o be byy)) = H11 at *
    have S11 := S.exB (b7.trans b11) ha
    obtain ⟨dy1, n1, d1, o1, z1, ad1, q1, q2, q3⟩ := S11.ex_
    have fby : ∀ {σ' : L2.St} {H' : Hp}, σ'[0]? = some (some (.ref a)) → Ex H11 H' → Ev (tFld K (tVar 0) "by") σ' H' (.ref byy) := fun h0 e => ev_fld (ev_var h0) (e _ _ h11a) T.c_Keep T.n_Keep_by rfl
    have eck := ec_S (K := K) (σ := [some (.ref a), some (.ref s), some (.int kk), some (.ref t), x1, y1, none]) (H := H11) (j := 6) (vs := [6]) (tl := tGet (cS K) (spRows K) E0 (tVar 1)) (tt := tB (tDIn (tVar 6) (tFld K (tVar 0) "by"))) (te := tTup (tCons (tVar 6) (tCons (tDGet (tFld K (tVar 0) "by") (tVar 6)) tNil)))
      (fun r => decide (r ∈ ks)) (fun r => (r, c r)) (ev_get (C := cS K) (u := .ref n1) (ev_var rfl) q1 fun H1 e Q k => ⟨s, dy1, _, _, rfl, e _ _ q1, q2.ln, k⟩) (st_of q2.hn) (by have := D.len; omega) (fun x => rfl) (fun r H1 e hr => et_B (ev_din (ev_var rfl) (fby rfl e) (.inl (e _ _ hby11))))
      fun r H1 e hr hf => eu_tup (ea_cons (ev_var rfl) (ea_cons (ev_dget (fby rfl e) (ev_var rfl) (.inl (e _ _ hby11)) (of_decide_eq_true hf)) ea_nil)) (by show 2 ≤ 100000; decide)
    have etk := evp_tupC (K := K) eck
    refine q_fldPX (fun y H1 H2 e h => let ⟨q, r1, r2⟩ := h; ⟨q, r1, r2.ex e⟩) etk (ev_var rfl) h11a T.c_Keep T.n_Keep_key fun y H12 e12 hy => ?_
    obtain ⟨ky, rfl, hky⟩ := hy
    refine ⟨kf6 s kk o be byy ky, new_key, ?_⟩
    have b13 : ExB a H11 (upd H12 a (.ins (cK K) dx (kf6 s kk o be byy ky))) := (ExB.ex e12).trans ExB.upd
    have hky13 : CpsAt K (upd H12 a (.ins (cK K) dx (kf6 s kk o be byy ky))) ky (cpsOf c (keyL rows ks)) := by
      obtain ⟨ad3, k1, k2⟩ := hky.ex_
      refine ⟨ad3, ?_, CpsIn.exB (fs := _) k2 ExB.upd (e12 _ _ h11a)⟩
      rcases k1 with (k1 | ⟨ob, k1⟩) | k1
      · exact st_of (exb ExB.upd (e12 _ _ h11a) k1 (fun z => nomatch z))
      · exact .inl (.inr ⟨ob, exb ExB.upd (e12 _ _ h11a) k1 (fun z => nomatch z)⟩)
      · exact .inr k1
    have h13a : (upd H12 a (.ins (cK K) dx (kf6 s kk o be byy ky))) a = some (.ins (cK K) dx (kf6 s kk o be byy ky)) := upd_same
    generalize upd H12 a (.ins (cK K) dx (kf6 s kk o be byy ky)) = H13 at *
    refine s_fldPX (D := { nx := fun _ H' => Q .non H', rt := Q }) (R := StrLe 10000) (fun y H1 H2 e h => h) (evp_fn (vs := [.ref ky]) (ea_cons (ev_fld (ev_var rfl) h13a T.c_Keep T.n_Keep_key rfl) ea_nil) fun H14 e Q k => ⟨ky, _, rfl, hky13.ex e, fun d hd => ?_, ?_, k⟩) (ev_var rfl) h13a T.c_Keep T.n_Keep_shown fun y H14 e14 hy => ?_
    · obtain ⟨d1, d2⟩ := mem_cps hd
      obtain ⟨d3, d4⟩ := mem_keyL.mp d1
      have r1 := (O.rng _ d4).1
      have r2 := (O.rng _ d4).2
      rw [d2]
      exact ⟨D.nam _ d3, r1, Int.le_trans r2 k60⟩
    · rw [cps_len]
      have := List.length_filter_le (fun r => decide (r ∈ ks)) rows
      have := D.len
      show (rows.filter _).length ≤ 120
      omega
    · obtain ⟨z2, rfl, _⟩ := hy
      refine ⟨_, new_shown, ?_⟩
      have b15 : ExB a H13 (upd H14 a (.ins (cK K) dx (keF s kk o be byy ky z2))) := (ExB.ex e14).trans ExB.upd
      refine fin _ (b7.trans (b11.trans (b13.trans b15))) ⟨dx, o, be, byy, ky, z2, bks, bl, upd_same, S.exB (b7.trans (b11.trans (b13.trans b15))) ha, exb (b11.trans (b13.trans b15)) h8a ho8 (fun z => nomatch z), B8.exB (b11.trans (b13.trans b15)) h8a, hbk, hbl, exb (b13.trans b15) h11a hby11 (fun z => nomatch z), ?_⟩
      obtain ⟨ad3, k1, k2⟩ := hky13.ex_
      refine ⟨ad3, ?_, CpsIn.exB (fs := _) k2 b15 h13a⟩
      rcases k1 with (k1 | ⟨ob, k1⟩) | k1
      · exact st_of (exb b15 h13a k1 (fun z => nomatch z))
      · exact .inl (.inr ⟨ob, exb b15 h13a k1 (fun z => nomatch z)⟩)
      · exact .inr k1
end
end K29
set_option Elab.async false
set_option linter.all false
set_option maxRecDepth 100000
set_option maxHeartbeats 4000000
/-! Keep.of, the properties of a keep, Keep.__eq__. -/
namespace K29
open PySem PySem.Spec PyProof.Rows L2 Evl
section
variable {P : Program} {w : World} {K : PySem.W.Frag} {mg : Str → Option Value} {base : Heap}
/-! ### Keep(sheet, passes, *copies), told plainly -/
/-- a new keep -/
def NewKe (K : PySem.W.Frag) (s : Addr) (rows : List Str) (nd : Str → List Str) (m : Int) (ks : List Str) (c : Str → Int) : V → Hp → Prop := fun v H2 => ∃ a, v = .ref a ∧ KeepAt K H2 a s rows nd m ks c
abbrev spInitK (K : PySem.W.Frag) : Sp := fun vs H Q E => ∃ ws rest, vs = ws ++ rest ∧ ws.length = ([("self" : Str), "sheet", "passes"] : List Str).length ∧ rest.length ≤ sizeLine ∧ ∀ p us, H p = Option.none → spKI K (ws ++ [V.ref p]) (upd H p (.frz (stO us) (.tup rest))) Q E
/-- what is to be shown where a keep is made -/
theorem make_keep {H : Hp} {Q : VK} {E : XK} {s : Addr} {k : Int} {rows ks : List Str} {nd : Str → List Str} {c : Str → Int} {ad : Nat → Addr} (S : ShAt (cS K) H s rows nd) (D : Sht rows nd) (hks : ks.length ≤ 100) (hc : CpsIn H ad (cpsOf c ks))
    (R : Room_ K rows.length k H E (KOk rows nd k ks c ∧ RetP (NewKe K s rows nd k ks c) H Q)) :
    ∀ x dx, H x = Option.none → H dx = Option.none → dx ≠ x → spInitK K (V.ref x :: ([.ref s, .int k] ++ refs ad ks.length)) (upd (upd H dx (.own x)) x (.ins (cK K) dx [])) (fun v H2 => v = .non ∧ Q (.ref x) H2) E := by
  intro x dx hx hdx ne
  have e1 : Ex H (upd (upd H dx (.own x)) x (.ins (cK K) dx [])) := (Ex.new hdx).trans (Ex.new (by rw [upd_ne (Ne.symm ne)]; exact hx))
  refine ⟨[.ref x, .ref s, .int k], refs ad ks.length, rfl, rfl, by rw [refs_len]; exact sz_of (by omega), fun p us hp => ?_⟩
  have e2 : Ex H (upd (upd (upd H dx (.own x)) x (.ins (cK K) dx [])) p (.frz (stO us) (.tup (refs ad ks.length)))) := e1.trans (Ex.new hp)
  have px : p ≠ x := fun z => by rw [z, upd_same] at hp; cases hp
  refine ⟨x, dx, s, p, k, rows, nd, ks, c, ad, rfl, by rw [upd_ne (Ne.symm px), upd_same], S.ex e2, D, ⟨us, upd_same⟩, hc.ex e2, ⟨fun a b => ?_, fun a => (R.bad a).go e2, fun a b => (R.many a b).go e2⟩⟩
  obtain ⟨O, kk⟩ := R.good a b
  exact ⟨O, fun H2 eb hk => ⟨rfl, kk _ H2 (ExB.fresh ((ExB.ex e2).trans eb) hx) ⟨x, rfl, hk⟩⟩⟩
/-! ### Keep.of -/
theorem sc_Keep_of : FnScope ["cls", "sheet", "passes", "copies"] ["cls", "sheet", "passes", "copies"] (defScope s_Keep_of) := ⟨rfl, rfl, rfl, by decide +kernel, rfl, by decide +kernel, by decide +kernel⟩
def spKeepOf (K : PySem.W.Frag) : Sp := fun vs H Q _ => ∃ (s p : Addr) (k : Int) (rows ks : List Str) (nd : Str → List Str) (c : Str → Int) (ad : Nat → Addr), vs = [.ref (cK K), .ref s, .int k, .ref p] ∧ ShAt (cS K) H s rows nd ∧ Sht rows nd ∧ H p = some (.lst (refs ad ks.length)) ∧ CpsIn H ad (cpsOf c ks) ∧
  KOk rows nd k ks c ∧ 1 ≤ k ∧ k ≤ 60 ∧ (rows.length : Int) * k ≤ 120 ∧ RetP (NewKe K s rows nd k ks c) H Q
theorem ok_Keep_of (T : Tx K mg) : FnR P w K mg base CX0 8 (gAd K g_Keep_of) (spKeepOf K) := by
  have G1 := ok_need_room (P := P) (w := w) (base := base) T
  have G2 := ok_KI (P := P) (w := w) (base := base) T
  obtain ⟨_, D1⟩ := T.d_need_room
  refine fnr T.dg_Keep_of sc_Keep_of (fun _ _ _ _ _ _ us hl => match us, hl with | [_, _, _, _], _ => rfl) (fun vs H Q E h => ?_) (fun cdv A outer s H vs Q E hr h => ?_)
  · obtain ⟨s, p, k, rows, ks, nd, c, ad, rfl, _⟩ := h
    rfl
  · obtain ⟨s, p, kk, rows, ks, nd, c, ad, rfl, S, D, hp, hc, O, k1, k2, k3, k⟩ := h
    have room : ∀ {H' : Hp} {ok : Prop}, ok → Room_ K rows.length kk H' E0 ok := fun h => ⟨fun _ _ => h, fun z => (z ⟨k1, k2⟩).elim, fun _ z => absurd k3 (by omega)⟩
    refine ⟨_, pss_cons (ps_expr (pe_fn G1 (hr.mono (by decide)) (by rfl) T.g_need_room D1.kp passL (pa_cons (pv 1) (pa_cons (pv 2) pa_nil))))
      (pss_cons (ps_if (pt_not (pt_val (pe_callB call_isiT (by rfl) T.f_isinstance bi_isinstance (pa_cons (pv 3) (pa_cons (pe_tup (pa_cons (pe_bltn (by rfl) T.f_tuple cs_tuple (v := .ty "tuple") rfl) (pa_cons (pe_bltn (by rfl) T.f_list cs_list (v := .ty "list") rfl) pa_nil))) pa_nil))))) pss_dead pss_nil)
      (pss_one (ps_ret (pe_mkSV (i := 0) T.mk_Keep G2 hr passL rfl (Or.inl rfl) (pa_cons (pv 1) (pa_cons (pv 2) (StX.pa_star (pv 3) pa_nil))))))), ?_⟩
    refine q_drop (ev_fn (vs := [.ref s, .int kk]) (ea_cons (ev_var rfl) (ea_cons (ev_var rfl) ea_nil)) fun H1 e Q k => ⟨s, rows, nd, kk, rfl, S.ex e, by have := D.len; omega, room k⟩) fun H1 e1 => ?_
    refine q_when (b := false) (et_is (et_not (et_B (ev_isTL (x := .ref p) (ev_var rfl) (fun H2 e => .base (.lst ((e1.trans e) _ _ hp))) kit_lst))) rfl) (fun h => by cases h) fun _ H2 e2 => ?_
    have e02 := e1.trans e2
    refine ⟨rfl, ?_⟩
    have ea := ea_cons (σ := [some (.ref (cK K)), some (.ref s), some (.int kk), some (.ref p)]) (H := H2) (ta := tVar 1) (x := .ref s) (ev_var rfl) (ea_cons (ta := tVar 2) (x := .int kk) (ev_var rfl) (ea_star (K := K) (te := tVar 3) (ev_var rfl) (.inr (sq_of (e02 _ _ hp))) ea_nil))
    rw [List.append_nil] at ea
    refine ea H2 (Ex.refl H2) _ fun H3 e3 => ?_
    have e03 := e02.trans e3
    exact make_keep (S.ex e03) D (by have := O.len D; omega) (hc.ex e03) (room ⟨O, k.go e03⟩)
/-! ### the properties -/
/-- a field of a keep -/
def spFldK (K : PySem.W.Frag) (f : Str) : Sp := fun vs H Q _ => ∃ a dx fs v, vs = [.ref a] ∧ H a = some (.ins (cK K) dx fs) ∧ fs.lookup f = some v ∧ RetV v H Q
theorem sc_Keep_sheet : FnScope ["self"] ["self"] (defScope s_Keep_sheet) := ⟨rfl, rfl, rfl, by decide +kernel, rfl, by decide +kernel, by decide +kernel⟩
theorem sc_Keep_span : FnScope ["self"] ["self"] (defScope s_Keep_span) := ⟨rfl, rfl, rfl, by decide +kernel, rfl, by decide +kernel, by decide +kernel⟩
theorem sc_Keep_copies : FnScope ["self"] ["self"] (defScope s_Keep_copies) := ⟨rfl, rfl, rfl, by decide +kernel, rfl, by decide +kernel, by decide +kernel⟩
theorem ok_Keep_sheet (T : Tx K mg) : FnR P w K mg base CX0 1 (gAd K g_Keep_sheet) (spFldK K "base") := by
  refine fnr T.dg_Keep_sheet sc_Keep_sheet (fun _ _ _ _ _ _ us hl => match us, hl with | [_], _ => rfl) (fun vs H Q E h => by obtain ⟨a, dx, fs, v, rfl, _⟩ := h; rfl) fun cdv A outer s H vs Q E hr h => ?_
  obtain ⟨a, dx, fs, v, rfl, h1, h2, k⟩ := h
  exact ⟨_, pss_one (ps_ret (pe_fld (pv 0) rfl)), s_ret (ev_fld (ev_var rfl) h1 T.c_Keep T.n_Keep_base h2) fun H1 e => k.go e⟩
theorem ok_Keep_span (T : Tx K mg) : FnR P w K mg base CX0 1 (gAd K g_Keep_span) (spFldK K "many") := by
  refine fnr T.dg_Keep_span sc_Keep_span (fun _ _ _ _ _ _ us hl => match us, hl with | [_], _ => rfl) (fun vs H Q E h => by obtain ⟨a, dx, fs, v, rfl, _⟩ := h; rfl) fun cdv A outer s H vs Q E hr h => ?_
  obtain ⟨a, dx, fs, v, rfl, h1, h2, k⟩ := h
  exact ⟨_, pss_one (ps_ret (pe_fld (pv 0) rfl)), s_ret (ev_fld (ev_var rfl) h1 T.c_Keep T.n_Keep_many h2) fun H1 e => k.go e⟩
theorem ok_Keep_copies (T : Tx K mg) : FnR P w K mg base CX0 1 (gAd K g_Keep_copies) (spFldK K "key") := by
  refine fnr T.dg_Keep_copies sc_Keep_copies (fun _ _ _ _ _ _ us hl => match us, hl with | [_], _ => rfl) (fun vs H Q E h => by obtain ⟨a, dx, fs, v, rfl, _⟩ := h; rfl) fun cdv A outer s H vs Q E hr h => ?_
  obtain ⟨a, dx, fs, v, rfl, h1, h2, k⟩ := h
  exact ⟨_, pss_one (ps_ret (pe_fld (pv 0) rfl)), s_ret (ev_fld (ev_var rfl) h1 T.c_Keep T.n_Keep_key h2) fun H1 e => k.go e⟩
/-- a new tuple of texts -/
def NewT (ns : List Str) : V → Hp → Prop := fun v H2 => ∃ q, v = .ref q ∧ H2 q = some (.tup (ns.map V.str))
theorem el_C {K : PySem.W.Frag} {σ : L2.St} {H : Hp} {te tl : TE} {tt : TT} {a : Addr} {xs : List (Str × Int)} {i j : Nat} {vs : List Nat} (f : Str × Int → Bool) (g : Str × Int → V) (h : Ev tl σ H (.ref a)) (hx : CpsAt K H a xs) (hz : xs.length ≤ 40000) (hw : ∀ x y, wipe (((wipe σ vs).set i (some x)).set j (some y)) vs = wipe σ vs)
    (ht : ∀ x H1, Ex H H1 → x ∈ xs → EvT tt (((wipe σ vs).set i (some (.str x.1))).set j (some (.int x.2))) H1 (f x)) (he : ∀ x H1, Ex H H1 → x ∈ xs → f x = true → Ev te (((wipe σ vs).set i (some (.str x.1))).set j (some (.int x.2))) H1 (g x)) :
    EvL (tLc (iTup K tl) (gPair K i j) tt te vs) σ H ((xs.filter f).map g) := by
  obtain ⟨ad, hx1, hx2⟩ := hx.ex_
  have wk := walk_tup (K := K) (a := a) (xs := (List.range xs.length).map fun i => V.ref (ad i))
  rw [List.length_map, List.length_range] at wk
  rw [← given_by f g (Str.empty, 0) xs]
  refine el_lcW (fun i => f (xs[i]?.getD (Str.empty, 0))) (fun i => g (xs[i]?.getD (Str.empty, 0))) wk hz (fun H1 e R k => h H1 e _ fun H2 e2 => ⟨a, rfl, ⟨_, ex_t (e.trans e2) hx1⟩, k H2 e2 (ex_t (e.trans e2) hx1)⟩) (fun H1 H2 e h => ex_t e h) (fun n x H1 H2 e e2 hi _ y R k => ?_) fun n x H1 H2 hi _ y => y.1 ▸ Ex.refl _
  obtain ⟨rfl, e1⟩ := y
  have hs : xs[n]? = some xs[n] := List.getElem?_eq_getElem hi
  have hm : xs[n] ∈ xs := List.getElem_mem hi
  rw [List.getElem?_map, List.getElem?_range hi] at e1
  cases e1
  refine ⟨ad n, _, rfl, st_of (e _ _ (hx2 n _ hs)), rfl, .str xs[n].1, _, rfl, .int xs[n].2, [], rfl, rfl, k _ _ (Ex.refl _) (hw _ _) ?_ fun hf => ?_⟩
  · rw [hs]
    exact ht _ _ e hm
  · rw [hs] at hf ⊢
    exact he _ _ e hm hf
theorem evp_tupN {K : PySem.W.Frag} {σ : L2.St} {H : Hp} {te : TE} {ns : List Str} (h : EvL te σ H (ns.map V.str)) : EvP (tCB (fun xs H Q => ∃ p ys, xs = [.ref p] ∧ ((SqL K H p ys ∧ ∀ l, H l = none → Q (.ref l) (upd H l (.tup ys))) ∨ (SqT K H p ys ∧ Q (.ref p) H))) (tCons te tNil)) σ H (NewT ns) := fun H1 e Q q => eu_tupN h H1 e Q fun p H2 _ e2 h2 => q _ H2 e2 ⟨p, rfl, h2⟩
theorem sc_Keep_kept : FnScope ["self", "name", "number"] ["self"] (defScope s_Keep_kept) := ⟨rfl, rfl, rfl, by decide +kernel, rfl, by decide +kernel, by decide +kernel⟩
def spKept (K : PySem.W.Frag) : Sp := fun vs H Q _ => ∃ (a s : Addr) (rows ks : List Str) (nd : Str → List Str) (m : Int) (c : Str → Int), vs = [.ref a] ∧ KeepAt K H a s rows nd m ks c ∧ rows.length ≤ 100 ∧ RetP (NewT (keyL rows ks)) H Q
theorem keyL_len (rows ks : List Str) : (keyL rows ks).length ≤ rows.length := List.length_filter_le _ _
theorem ok_Keep_kept (T : Tx K mg) : FnR P w K mg base CX0 1 (gAd K g_Keep_kept) (spKept K) := by
  refine fnr T.dg_Keep_kept sc_Keep_kept (fun _ _ _ _ _ _ us hl => match us, hl with | [_], _ => rfl) (fun vs H Q E h => by obtain ⟨a, s, rows, ks, nd, m, c, rfl, _⟩ := h; rfl) fun cdv A outer s H vs Q E hr h => ?_
  obtain ⟨a, s, rows, ks, nd, m, c, rfl, Ke, hl, k⟩ := h
  obtain ⟨dx, o, be, byy, ky, z, bks, bl, h1, h2, h3, h4, h5, h6, h7, h8⟩ := Ke.ex_
  refine ⟨_, pss_one (ps_ret (pe_callTy call_tuple_of (by rfl) T.f_tuple cs_tuple (pa_cons (pe_lc (own := [("name", 1), ("number", 2)]) (g := gPair K 1 2) rfl sc_Keep_kept.nd (pi_tup (pe_fld (pv 0) rfl)) (blkOk_by (own := [("name", 1), ("number", 2)]) (N := ["self", "name", "number"]) (sc := defScope s_Keep_kept) (by decide +kernel))
    (fun _ _ _ _ _ => pg_tup (n := 2) rfl (pgs_cons (pg_name (i := 1) sc_Keep_kept.nd rfl (Or.inl rfl)) (pgs_cons (pg_name (i := 2) sc_Keep_kept.nd rfl (Or.inl rfl)) pgs_nil))) (fun _ _ _ _ _ => pts_nil) (fun _ _ _ _ _ => pv 1)) pa_nil))), ?_⟩
  have hkl := keyL_len rows ks
  have el := el_C (K := K) (σ := [some (.ref a), none, none]) (H := H) (tl := tFld K (tVar 0) "key") (tt := tYes) (te := tVar 1) (i := 1) (j := 2) (vs := [1, 2]) (fun _ => true) (fun x => .str x.1) (ev_fld (ev_var rfl) h1 T.c_Keep T.n_Keep_key keF_key) h8 (by rw [cps_len]; omega) (fun x y => rfl) (fun x H1 e hx => fun H2 e2 Q k => k H2 (Ex.refl H2)) fun x H1 e hx _ => ev_var rfl
  have ek : ((cpsOf c (keyL rows ks)).filter fun _ => true).map (fun x => V.str x.1) = (keyL rows ks).map V.str := by
    rw [List.filter_eq_self.mpr (fun _ _ => rfl)]
    unfold cpsOf
    rw [List.map_map]
    rfl
  rw [ek] at el
  exact s_retP (D := { nx := fun _ H' => Q .non H', rt := Q }) (evp_tupN el) k
/-- the rows that are moved -/
def movL (rows ks : List Str) : List Str := rows.filter fun r => !decide (r ∈ ks)
theorem sc_Keep_moved : FnScope ["self", "name"] ["self"] (defScope s_Keep_moved) := ⟨rfl, rfl, rfl, by decide +kernel, rfl, by decide +kernel, by decide +kernel⟩
def spMoved (K : PySem.W.Frag) : Sp := fun vs H Q _ => ∃ (a s : Addr) (rows ks : List Str) (nd : Str → List Str) (m : Int) (c : Str → Int), vs = [.ref a] ∧ KeepAt K H a s rows nd m ks c ∧ rows.length ≤ 100 ∧ RetP (NewT (movL rows ks)) H Q
theorem ok_Keep_moved (T : Tx K mg) : FnR P w K mg base CX0 3 (gAd K g_Keep_moved) (spMoved K) := by
  have G1 := ok_Sheet_rows (P := P) (w := w) (base := base) T
  refine fnr T.dg_Keep_moved sc_Keep_moved (fun _ _ _ _ _ _ us hl => match us, hl with | [_], _ => rfl) (fun vs H Q E h => by obtain ⟨a, s, rows, ks, nd, m, c, rfl, _⟩ := h; rfl) fun cdv A outer s H vs Q E hr h => ?_
  obtain ⟨a, s, rows, ks, nd, m, c, rfl, Ke, hl, k⟩ := h
  obtain ⟨dx, o, be, byy, ky, z, bks, bl, h1, h2, h3, h4, h5, h6, h7, h8⟩ := Ke.ex_
  obtain ⟨dy, n, d, o1, z1, ad, q1, q2, q3⟩ := h2.ex_
  have hu := hu_of hr
  refine ⟨_, pss_one (ps_ret (pe_callTy call_tuple_of (by rfl) T.f_tuple cs_tuple (pa_cons (pe_lc (own := [("name", 1)]) (g := gName 1) (tt := tB (tDNotIn (tVar 1) (tFld K (tVar 0) "by"))) rfl sc_Keep_moved.nd (pi_tup (pe_get (E := E0) (pe_fld (pv 0) rfl) T.c_Sheet T.p_Sheet_rows G1 hr)) (blkOk_by (own := [("name", 1)]) (N := ["self", "name"]) (sc := defScope s_Keep_moved) (by decide +kernel))
    (fun _ _ _ _ _ => pg_name (i := 1) sc_Keep_moved.nd rfl (Or.inl rfl)) (fun _ _ _ _ _ => pts_one (pt_cmp (pc_dnotin hu (pv 1) (pe_fld (pv 0) rfl)) rfl)) (fun _ _ _ _ _ => pv 1)) pa_nil))), ?_⟩
  have el := el_S (K := K) (σ := [some (.ref a), none]) (H := H) (tl := tGet (cS K) (spRows K) E0 (tFld K (tVar 0) "base")) (tt := tB (tDNotIn (tVar 1) (tFld K (tVar 0) "by"))) (te := tVar 1) (j := 1) (vs := [1]) (fun r => !decide (r ∈ ks)) V.str
    (ev_get (C := cS K) (u := .ref n) (ev_fld (ev_var rfl) h1 T.c_Keep T.n_Keep_base keF_base) q1 fun H1 e Q k => ⟨s, dy, _, _, rfl, e _ _ q1, q2.ln, k⟩) (st_of q2.hn) (by omega) (fun x => rfl)
    (fun r H1 e hr => et_B (ev_dnin (ev_var rfl) (ev_fld (ev_var rfl) (e _ _ h1) T.c_Keep T.n_Keep_by keF_by) (.inl (e _ _ h7)))) fun x H1 e hx _ => ev_var rfl
  exact s_retP (D := { nx := fun _ H' => Q .non H', rt := Q }) (evp_tupN el) k
/-! ### Keep.__eq__, two keeps of the same -/
theorem sc_Keep_eq : FnScope ["self", "other"] ["self", "other"] (defScope s_Keep_eq) := ⟨rfl, rfl, rfl, by decide +kernel, rfl, by decide +kernel, by decide +kernel⟩
def SameKe (K : PySem.W.Frag) (a b : Addr) (H : Hp) : Prop := ∃ (s : Addr) (rows ks : List Str) (nd : Str → List Str) (m : Int) (c : Str → Int), KeepAt K H a s rows nd m ks c ∧ KeepAt K H b s rows nd m ks c ∧ rows.length ≤ 60 ∧ ∀ r ∈ rows, IsName r
theorem ok_Keep_eq (T : Tx K mg) : ∃ fd, FnOk P w K mg base CX0 3 (He.ma K (cK K) "__eq__") fd ["self", "other"] (spEq (SameKe K)) ∧ Binds K fd ["self", "other"] [] := by
  obtain ⟨fd, D⟩ := T.d_Keep_eq
  obtain ⟨fd2, F2, B2⟩ := ok_Sheet_eq (P := P) (w := w) (base := base) T
  refine ⟨fd, D.ok sc_Keep_eq (fun vs H Q E h => ?_) (fun cdv A outer s0 H vs Q E hr h => ?_), D.bindsN fun _ _ _ _ _ _ us hl => match us, hl with | [_, _], _ => rfl⟩
  · obtain ⟨a, b, rfl, _⟩ := h
    rfl
  · obtain ⟨a, b, rfl, ⟨s, rows, ks, nd, m, c, A1, A2, hl, hnm⟩, k⟩ := h
    obtain ⟨dx, o, be, byy, ky, z, bks, bl, h1, h2, h3, h4, h5, h6, h7, h8⟩ := A1.ex_
    obtain ⟨dx', o', be', byy', ky', z', bks', bl', g1, g2, g3, g4, g5, g6, g7, g8⟩ := A2.ex_
    have hE : RcG (cxOf CX0 P w K mg base ["self", "other"] d_Keep_eq.qual d_Keep_eq.scope (He.ma K (cK K) "__eq__") cdv A outer s0 H E).nox 1 (DIns (cS K) (SameSh K)) := rcG_ins (E := E0) F2 T.m_Sheet_eq.at_ T.m_Sheet_eq.fn B2 pass0
    have body : PSs (cxOf CX0 P w K mg base ["self", "other"] d_Keep_eq.qual d_Keep_eq.scope (He.ma K (cK K) "__eq__") cdv A outer s0 H E).nox d_Keep_eq.body _ :=
      pss_one (ps_ret (pe_and (pe_callB call_isi (by rfl) T.f_isinstance bi_isinstance (pa_cons (pv 1) (pa_cons (pe_glob (v := .ref (cK K)) (by rfl) T.g_Keep rfl) pa_nil)))
        (pe_and (pe_cmpR (op_eqG hE (hr.mono (by decide))) (pe_fld (pv 0) rfl) (pe_fld (pv 1) rfl) (nomark _)) (pe_one (pe_cmpR (op_eqD hr.units) (pe_tup (pa_cons (pe_fld (pv 0) rfl) (pa_cons (pe_fld (pv 0) rfl) pa_nil))) (pe_tup (pa_cons (pe_fld (pv 1) rfl) (pa_cons (pe_fld (pv 1) rfl) pa_nil))) (nomark _))))))
    refine ⟨_, body.nox, ?_⟩
    have hz : ∀ x ∈ cpsOf c (keyL rows ks), PyData.strOk x.1 = true := fun x hx => nm_ok (hnm _ (mem_keyL.mp (mem_cps hx).1).1)
    have eqs : Ev (tOp (rEqG (DIns (cS K) (SameSh K))) (tFld K (tVar 0) "base") (tFld K (tVar 1) "base")) [some (.ref a), some (.ref b)] H (.bl true) := fun H1 e Q q =>
      ev_fld (σ := [some (.ref a), some (.ref b)]) (H := H) (ta := tVar 0) (ev_var rfl) h1 T.c_Keep T.n_Keep_base keF_base H1 e _ fun H2 e2 => ev_fld (σ := [some (.ref a), some (.ref b)]) (H := H) (ta := tVar 1) (ev_var rfl) g1 T.c_Keep T.n_Keep_base keF_base H2 (e.trans e2) _ fun H3 e3 => by
        have e03 := (e.trans e2).trans e3
        obtain ⟨dy, n, d, o1, z1, ad, q1, q2, q3⟩ := h2.ex_
        exact ⟨⟨s, s, dy, dy, _, _, rfl, rfl, e03 _ _ q1, e03 _ _ q1, rfl, rows, nd, h2.ex e03, hl, hnm⟩, fun H4 e4 => q H4 ((e2.trans e3).trans e4)⟩
    have kd : ∀ {b0 dx0 o0 be0 byy0 ky0 : Addr} {z0 : Str} (i : Nat), [some (V.ref a), some (V.ref b)][i]? = some (some (.ref b0)) → H b0 = some (.ins (cK K) dx0 (keF s m o0 be0 byy0 ky0 z0)) → CpsAt K H ky0 (cpsOf c (keyL rows ks)) →
        EvD K (tTup (tCons (tFld K (tVar i) "many") (tCons (tFld K (tVar i) "key") tNil))) [some (.ref a), some (.ref b)] H (.tuple [.int m, .tuple ((cpsOf c (keyL rows ks)).map cpD)]) := fun i hi hb hc => by
      refine eu_dat (eu_tup (ea_cons (ev_fld (ev_var hi) hb T.c_Keep T.n_Keep_many keF_many) (ea_cons (ev_fld (ev_var hi) hb T.c_Keep T.n_Keep_key keF_key) ea_nil)) (by show 2 ≤ 100000; decide)) fun H1 e => .cons (.int _) (.cons (hc.ex e).dp .nil)
    have shp : SeqAt.shaped (.tuple [.int m, .tuple ((cpsOf c (keyL rows ks)).map cpD)]) = true := by
      refine shaped_t ?_ ?_
      · simp only [PyData.canLayAll0, PyData.canLay0, Bool.true_and, Bool.and_true]
        exact all_lay _ _ fun x hx => cp_lay (hz x hx)
      · have := all_depth cpD 1 (cpsOf c (keyL rows ks)) fun x _ => cp_depth x
        simp only [PyData.depthAll, PyData.depth]
        omega
    have eqk := ev_eqD (kd 0 rfl h1 h8) (kd 1 rfl g1 g8) shp shp
    have eqv1 : PyData.eqv (.tuple [.int m, .tuple ((cpsOf c (keyL rows ks)).map cpD)]) (.tuple [.int m, .tuple ((cpsOf c (keyL rows ks)).map cpD)]) = true := by
      simp only [PyData.eqv, PyData.eqvAll, Bool.and_true]
      rw [eqv_map _ eqv_cp, decide_eq_true rfl, beq_self_eq_true]
      rfl
    rw [eqv1] at eqk
    refine s_ret (D := { nx := fun _ H' => Q .non H', rt := Q }) (ev_andV (a := true) (ev_isi (x := .ref b) (tv := .ref (cK K)) (ev_var rfl) ev_c (.own _) (fun H1 e => .base (.ins (e _ _ g1) T.c_Keep T.is_Keep.ha T.is_Keep.hn T.is_Keep.ht T.is_Keep.hm)) ?_) fun _ => ev_andV (a := true) eqs fun _ => eqk) fun H1 e => k H1 e
    unfold PySem.W.kitOne
    rw [if_pos (by simp)]
end
end K29
set_option Elab.async false
set_option linter.all false
set_option maxRecDepth 100000
set_option maxHeartbeats 4000000
/-! Keep.raised: the plain law, then the walk. -/
namespace K29
open PySem PySem.Spec PyProof.Rows L2 Evl
/-! ### the plain law -/
/-- the pass of the row that is added -/
structure OwnOk (rows : List Str) (nd : Str → List Str) (ks : List Str) (c : Str → Int) (n : Str) (own : Int) : Prop where
  ex_ : ∃ (under behind : List Str) (last : Int), (∀ r, r ∈ under ↔ r ∈ ks ∧ Dep nd r n) ∧ (last = 0 ∨ ∃ r ∈ under, c r = last) ∧ 0 ≤ last ∧ (∀ r ∈ under, c r ≤ last) ∧ (∀ r, r ∈ behind ↔ r ∈ under ∧ c r = last ∧ ix rows n < ix rows r) ∧ own = (if behind ≠ [] then last + 1 else if 1 > last then 1 else last)
open Classical in
/-- the passes after the row n is added -/
noncomputable def upC (nd : Str → List Str) (c : Str → Int) (n : Str) (own : Int) (r : Str) : Int := if r = n then own else c r + (if Dep nd n r then 1 else 0)
theorem raise_ok {rows : List Str} {nd : Str → List Str} {m : Int} {ks : List Str} {c : Str → Int} {n : Str} {own : Int} (D : Sht rows nd) (O : KOk rows nd m ks c) (hm : 0 ≤ m) (hn : n ∈ rows) (hk : n ∉ ks) (W : OwnOk rows nd ks c n own) :
    KOk rows nd (m + 1) (keyL rows ks ++ [n]) (upC nd c n own) := by
  obtain ⟨under, behind, last, u1, u2, u3, u4, u5, u6⟩ := W.ex_
  have kn : ∀ r ∈ keyL rows ks, r ∈ ks ∧ r ≠ n := fun r hr => ⟨(mem_keyL.mp hr).2, fun z => hk (z ▸ (mem_keyL.mp hr).2)⟩
  have last_le : last ≤ m := by
    rcases u2 with h | ⟨r, hr, h⟩
    · omega
    · rw [← h]
      exact (O.rng r ((u1 r).mp hr).1).2
  have ownp : 1 ≤ own ∧ own ≤ last + 1 ∧ last ≤ own := by
    rw [u6]
    split
    · omega
    · split <;> omega
  have upk : ∀ r ∈ ks, upC nd c n own r = c r ∨ (Dep nd n r ∧ upC nd c n own r = c r + 1) := fun r hr => by
    have hne : ¬ r = n := fun z => hk (z ▸ hr)
    unfold upC
    rw [if_neg hne]
    by_cases h : Dep nd n r
    · rw [if_pos h]
      exact .inr ⟨h, rfl⟩
    · rw [if_neg h]
      exact .inl (Int.add_zero _)
  have upd : ∀ r ∈ ks, Dep nd n r → upC nd c n own r = c r + 1 := fun r hr h => by
    have hne : ¬ r = n := fun z => hk (z ▸ hr)
    unfold upC
    rw [if_neg hne, if_pos h]
  have upn : ∀ r ∈ ks, ¬ Dep nd n r → upC nd c n own r = c r := fun r hr h => by
    have hne : ¬ r = n := fun z => hk (z ▸ hr)
    unfold upC
    rw [if_neg hne, if_neg h, Int.add_zero]
  have uown : upC nd c n own n = own := by unfold upC; rw [if_pos rfl]
  have knod : (keyL rows ks).Nodup := List.Nodup.sublist List.filter_sublist D.nod
  refine ⟨nd_snoc knod fun z => (kn n z).2 rfl, fun r hr => ?_, fun r hr => ?_, fun r hr s hs hd => ?_⟩
  · rcases List.mem_append.mp hr with h | h
    · exact (mem_keyL.mp h).1
    · exact List.mem_singleton.mp h ▸ hn
  · rcases List.mem_append.mp hr with h | h
    · have := O.rng r (kn r h).1
      rcases upk r (kn r h).1 with z | ⟨_, z⟩ <;> omega
    · rw [List.mem_singleton.mp h, uown]
      omega
  · rcases List.mem_append.mp hr with h | h
    · rcases List.mem_append.mp hs with h' | h'
      · obtain ⟨hr', _⟩ := kn r h
        obtain ⟨hs', _⟩ := kn s h'
        have old := O.bar r hr' s hs' hd
        by_cases dn : Dep nd n r
        · rw [upd r hr' dn, upd s hs' (dn.trans hd)]
          omega
        · rw [upn r hr' dn]
          rcases upk s hs' with z | ⟨_, z⟩ <;> omega
      · obtain ⟨hr', hne⟩ := kn r h
        have es := List.mem_singleton.mp h'
        subst es
        have nd' : ¬ Dep nd s r := fun z => D.irr (z.trans hd) hn rfl
        rw [upn r hr' nd', uown]
        have hu := (u1 r).mpr ⟨hr', hd⟩
        have hle := u4 r hu
        by_cases hb : behind = []
        · rw [if_neg (fun z => z hb)] at u6
          have h1 := (O.rng r hr').1
          by_cases hlt : c r < last
          · left; omega
          · have hcl : c r = last := by omega
            right
            refine ⟨by rw [u6]; split <;> omega, ?_⟩
            have nb : ¬ r ∈ behind := by rw [hb]; intro z; cases z
            have hix : ¬ ix rows s < ix rows r := fun z => nb ((u5 r).mpr ⟨hu, hcl, z⟩)
            have hne' : ix rows r ≠ ix rows s := fun z => hne (ix_inj (O.sub r hr') hn z)
            omega
        · rw [if_pos hb] at u6
          left
          omega
    · have er := List.mem_singleton.mp h
      subst er
      rcases List.mem_append.mp hs with h' | h'
      · obtain ⟨hs', hne⟩ := kn s h'
        rw [uown, upd s hs' hd]
        have h1 := (O.rng s hs').1
        have bar : ∀ u ∈ under, c u < c s ∨ (c u = c s ∧ ix rows u < ix rows s) := fun u hu => by
          obtain ⟨hu1, hu2⟩ := (u1 u).mp hu
          exact O.bar u hu1 s hs' (hu2.trans hd)
        have hll : last ≤ c s := by
          rcases u2 with z | ⟨u, hu, z⟩
          · omega
          · have := bar u hu
            omega
        by_cases hb : behind = []
        · rw [if_neg (fun z => z hb)] at u6
          left
          rw [u6]
          split <;> omega
        · rw [if_pos hb] at u6
          by_cases hlt : last < c s
          · left; omega
          · right
            refine ⟨by omega, ?_⟩
            obtain ⟨b, hbm⟩ := List.exists_mem_of_ne_nil _ hb
            obtain ⟨b1, b2, b3⟩ := (u5 b).mp hbm
            have := bar b b1
            omega
      · have es := List.mem_singleton.mp h'
        subst es
        exact absurd rfl (D.irr hd hn)
end K29
set_option Elab.async false
set_option linter.all false
set_option maxRecDepth 100000
set_option maxHeartbeats 4000000
/-! Keep.raised: the walk. -/
namespace K29
open PySem PySem.Spec PyProof.Rows L2 Evl
theorem own_uniq {rows : List Str} {nd : Str → List Str} {ks : List Str} {c : Str → Int} {n : Str} {o1 o2 : Int} (W1 : OwnOk rows nd ks c n o1) (W2 : OwnOk rows nd ks c n o2) : o1 = o2 := by
  obtain ⟨un1, be1, l1, a1, a2, a3, a4, a5, a6⟩ := W1.ex_
  obtain ⟨un2, be2, l2, b1, b2, b3, b4, b5, b6⟩ := W2.ex_
  have hl : l1 = l2 := by
    have h1 : l1 ≤ l2 := by
      rcases a2 with z | ⟨r, hr, z⟩
      · omega
      · rw [← z]
        exact b4 r ((b1 r).mpr ((a1 r).mp hr))
    have h2 : l2 ≤ l1 := by
      rcases b2 with z | ⟨r, hr, z⟩
      · omega
      · rw [← z]
        exact a4 r ((a1 r).mpr ((b1 r).mp hr))
    omega
  subst hl
  have hb : be1 = [] ↔ be2 = [] := by
    have mem : ∀ r, r ∈ be1 ↔ r ∈ be2 := fun r => by rw [a5, b5, a1, b1]
    constructor
    · intro z
      subst z
      exact List.eq_nil_iff_forall_not_mem.mpr fun r hr => by have := (mem r).mpr hr; cases this
    · intro z
      subst z
      exact List.eq_nil_iff_forall_not_mem.mpr fun r hr => by have := (mem r).mp hr; cases this
  rw [a6, b6]
  by_cases z : be1 = []
  · have z2 := hb.mp z
    subst z; subst z2
    rfl
  · have z2 : ¬ be2 = [] := fun y => z (hb.mpr y)
    simp [z, z2]
open Classical in
noncomputable def ownF (rows : List Str) (nd : Str → List Str) (ks : List Str) (c : Str → Int) (n : Str) : Int := if h : ∃ o, OwnOk rows nd ks c n o then choose h else 0
theorem own_F {rows : List Str} {nd : Str → List Str} {ks : List Str} {c : Str → Int} {n : Str} {o : Int} (W : OwnOk rows nd ks c n o) : ownF rows nd ks c n = o := by
  unfold ownF
  rw [dif_pos ⟨o, W⟩]
  exact own_uniq (Classical.choose_spec (⟨o, W⟩ : ∃ o, OwnOk rows nd ks c n o)) W
/-- the rows of the keep that is raised -/
abbrev ksR (rows ks : List Str) (n : Str) : List Str := keyL rows ks ++ [n]
noncomputable abbrev cR (rows : List Str) (nd : Str → List Str) (ks : List Str) (c : Str → Int) (n : Str) : Str → Int := upC nd c n (ownF rows nd ks c n)
section
variable {K : PySem.W.Frag} {σ : L2.St} {H H' : Hp} {te tl ta tb : TE} {tt : TT} {t : TA} {x y z v : V}
theorem ea_starN {xs ys : List V} (he : EvL te σ H xs) (hr : EvA t σ H ys) : EvA (StX.tStar K te t) σ H (xs ++ ys) := fun H1 e Q q =>
  he H1 e _ fun p H2 _ e2 h2 => ⟨p, xs, rfl, .inr (sq_of h2), hr H2 (e.trans e2) _ fun H3 e3 => q H3 (e2.trans e3)⟩
theorem el_SP {xs : List Str} {j : Nat} {vs : List Nat} (f : Str → Bool) (g : Str → V) (h : EvP tl σ H (NewT xs)) (hz : xs.length ≤ 40000) (hw : ∀ x, wipe ((wipe σ vs).set j (some x)) vs = wipe σ vs)
    (ht : ∀ x H1, Ex H H1 → x ∈ xs → EvT tt ((wipe σ vs).set j (some (.str x))) H1 (f x)) (he : ∀ x H1, Ex H H1 → x ∈ xs → f x = true → Ev te ((wipe σ vs).set j (some (.str x))) H1 (g x)) :
    EvL (tLc (iTup K tl) (gName j) tt te vs) σ H ((xs.filter f).map g) := fun H1 e Q k => h H1 e _ fun v H2 e2 r => by
  obtain ⟨q, rfl, hq⟩ := r
  exact el_S (K := K) (tl := tC (.ref q)) f g ev_c (st_of hq) hz hw (fun x H3 e3 => ht x H3 ((e.trans e2).trans e3)) (fun x H3 e3 => he x H3 ((e.trans e2).trans e3)) H2 (Ex.refl H2) Q fun p H3 hp e3 h3 => k p H3 (fresh_back e2 hp) (e2.trans e3) h3
theorem el_SL {a : Addr} {xs : List Str} {j : Nat} {vs : List Nat} (f : Str → Bool) (g : Str → V) (h : Ev tl σ H (.ref a)) (hx : SqL K H a (xs.map V.str)) (hz : xs.length ≤ 40000) (hw : ∀ x, wipe ((wipe σ vs).set j (some x)) vs = wipe σ vs)
    (ht : ∀ x H1, Ex H H1 → x ∈ xs → EvT tt ((wipe σ vs).set j (some (.str x))) H1 (f x)) (he : ∀ x H1, Ex H H1 → x ∈ xs → f x = true → Ev te ((wipe σ vs).set j (some (.str x))) H1 (g x)) :
    EvL (tLc (iList K tl) (gName j) tt te vs) σ H ((xs.filter f).map g) := by
  have wk := walk_list (K := K) (a := a) (xs := xs.map V.str)
  rw [List.length_map] at wk
  rw [← given_by f g Str.empty xs]
  have at_ : ∀ i, i < xs.length → xs[i]?.getD Str.empty ∈ xs := fun i hi => by
    rw [List.getElem?_eq_getElem hi]
    exact List.getElem_mem hi
  refine el_lcN (fun i => f (xs[i]?.getD Str.empty)) (fun i => g (xs[i]?.getD Str.empty)) (fun i => .str (xs[i]?.getD Str.empty)) wk hz (fun H1 e R k => h H1 e _ fun H2 e2 => ⟨a, rfl, ⟨_, ex_l (e.trans e2) hx⟩, k H2 e2 (ex_l (e.trans e2) hx)⟩) (fun H1 H2 e h => ex_l e h)
    (fun i x H1 H2 hi _ y => ?_) hw (fun i H1 e hi _ => ht _ H1 e (at_ i hi)) fun i H1 e hi _ hf => he _ H1 e (at_ i hi) hf
  obtain ⟨rfl, e⟩ := y
  refine ⟨Ex.refl _, ?_⟩
  rw [List.getElem?_map, List.getElem?_eq_getElem hi] at e
  rw [List.getElem?_eq_getElem hi]
  exact (Option.some.inj e).symm
theorem evp_max {ns : List Int} (h : EvL ta σ H (ns.map V.int)) (hn : 0 < ns.length) : EvP (tCB (rMax K) (tCons ta tNil)) σ H (fun v _ => ∃ m, v = .int m ∧ m ∈ ns ∧ ∀ y ∈ ns, y ≤ m) := fun H1 e Q q =>
  h H1 e _ fun p H2 _ e2 h2 => ⟨p, ns, rfl, sq_of h2, hn, fun m m1 m2 => q _ H2 e2 ⟨m, rfl, m1, m2⟩⟩
theorem ev_max2' {i j : Int} (ha : Ev ta σ H (.int i)) (hb : Ev tb σ H (.int j)) : Ev (tCB (fun xs H Q => ∃ i j, xs = [.int i, .int j] ∧ Q (.int (if j > i then j else i)) H) (tCons ta (tCons tb tNil))) σ H (.int (if j > i then j else i)) := ev_max2 ha hb
theorem ev_intB {b : Bool} (ha : Ev ta σ H (.bl b)) : Ev (tCB (fun xs H Q => (∃ i, xs = [.int i] ∧ Q (.int i) H) ∨ ∃ k, xs = [.bl k] ∧ Q (.int (if k then 1 else 0)) H) (tCons ta tNil)) σ H (.int (if b then 1 else 0)) := fun H1 e Q q =>
  ha H1 e _ fun H2 e2 => .inr ⟨b, rfl, q H2 e2⟩
theorem q_asgC {i : Nat} {cs : List (Str × Int)} {D : Ends} {tz : TS} (h : EvC te σ H cs) (k : ∀ p H2 ad, H p = none → Ex H H2 → H2 p = some (.lst (refs ad cs.length)) → CpsIn H2 ad cs → tz D (σ.set i (some (.ref p))) H2) : tSeq (tAsg te (gName i)) tz D σ H := h H (Ex.refl H) _ k
end
/-- a value that is no moved row -/
def Refus (K : PySem.W.Frag) (H : Hp) (rows ks : List Str) (v : V) : Prop := (∃ tv, (∀ H', Ex H H' → TyX K H' v tv) ∧ PySem.W.kitOne K tv (.type "str") = some false) ∨ ∃ r, v = .str r ∧ (r ∉ rows ∨ r ∈ ks)
section
variable {P : Program} {w : World} {K : PySem.W.Frag} {mg : Str → Option Value} {base : Heap}
abbrev nsR : List Str := ["self", "name", "under", "last", "behind", "own", "copies", "row", "number"]
theorem sc_raised : FnScope nsR ["self", "name"] (defScope s_Keep_raised) := ⟨rfl, rfl, rfl, by decide +kernel, rfl, by decide +kernel, by decide +kernel⟩
def spRaised (K : PySem.W.Frag) : Sp := fun vs H Q E => ∃ (a s : Addr) (rows ks : List Str) (nd : Str → List Str) (m : Int) (c : Str → Int) (v : V), vs = [.ref a, v] ∧ KeepAt K H a s rows nd m ks c ∧ Sht rows nd ∧ KOk rows nd m ks c ∧ 0 ≤ m ∧
  ((Refus K H rows ks v ∧ RaisesX (He.ga K "NotMoved") "name" v H E) ∨
    ∃ n, v = .str n ∧ n ∈ rows ∧ n ∉ ks ∧ Room_ K rows.length (m + 1) H E (KOk rows nd (m + 1) (ksR rows ks n) (cR rows nd ks c n) → RetP (NewKe K s rows nd (m + 1) (ksR rows ks n) (cR rows nd ks c n)) H Q))
/-- a def that may raise, by any way of binding -/
theorem fnxO {x qual : Str} {params : Arguments} {body : List Stmt} {scope : Scope} {f : Addr} {N ps : List Str} {k : Nat} {sp : Sp}
    (F : ∃ fd, FunD K x qual params body scope [] [] f fd) (S : FnScope N ps scope) (len : ∀ vs H Q E, sp vs H Q E → vs.length = ps.length)
    (go : ∀ (cdv : Value) (A : Around) (outer : List Env) (s : Shared) (H : Hp) (vs : List V) (Q : VK) (E : XK), Room k (A.deeper (envOfC qual scope s.heap.objs.size f cdv)) → sp vs H Q E →
      ∃ t, PSs (cxOf (L2.CX P w) P w K mg base N qual scope f cdv A outer s H E) body t ∧ t { nx := fun _ H' => Q .non H', rt := Q } (start N vs) H) :
    ∃ fd, FunD K x qual params body scope [] [] f fd ∧ FnOk P w K mg base (L2.CX P w) (k + 1) f fd ps sp := by
  obtain ⟨fd, F⟩ := F
  exact ⟨fd, F, F.ok S len fun cdv A outer s H vs Q E hr h => go cdv A outer s H vs Q E hr h⟩
theorem ok_raisedF (T : Tx K mg) : ∃ fd, FunD K d_Keep_raised.name d_Keep_raised.qual d_Keep_raised.params d_Keep_raised.body d_Keep_raised.scope [] [] (He.ma K (cK K) "raised") fd ∧ FnOk P w K mg base (L2.CX P w) 8 (He.ma K (cK K) "raised") fd ["self", "name"] (spRaised K) := by
  have G1 := ok_NotMoved (P := P) (w := w) (base := base) T
  have G2 := ok_Keep_kept (P := P) (w := w) (base := base) T
  have G3 := ok_KI (P := P) (w := w) (base := base) T
  refine fnxO T.d_Keep_raised sc_raised (fun vs H Q E h => ?_) (fun cdv A outer s0 H vs Q E hr h => ?_)
  · obtain ⟨a, s, rows, ks, nd, m, c, v, rfl, _⟩ := h
    rfl
  · obtain ⟨a, s, rows, ks, nd, m, c, v, rfl, Ke, D, O, hm, hcase⟩ := h
    have hu := hu_of hr
    refine ⟨_, pss_cons (ps_if (PW.pt (pw_or (pt_not (pt_val (pe_callB call_isi (by rfl) T.f_isinstance bi_isinstance (pa_cons (pv 1) (pa_cons (pe_bltn (by rfl) T.f_str cs_str (v := .ty "str") rfl) pa_nil)))))
        (pw_or (pt_cmp (pc_dnotin hu (pv 1) (pe_fld (pv 0) rfl)) rfl) (pw_or1 (pt_cmp (pc_din hu (pv 1) (pe_fld (pv 0) rfl)) rfl)))))
        (pss_one (ps_raise rfl (takes_of rfl rfl rfl rfl) (pmk_xc T.x_NotMoved PySem.F.excBase_ValueError G1 (hr.mono (by decide)) (by rfl) T.g_NotMoved (pa_cons (pv 1) pa_nil)))) pss_nil)
      (pss_cons (ps_setLc (i := 2) (own := [("row", 7)]) (g := gName 7) (tt := tB (tDIn (tVar 7) (tDGet (tFld K (tVar 0) "below") (tVar 1)))) rfl sc_raised.nd rfl rfl (sw_true rfl rfl rfl rfl) (pi_tup (pe_get (E := E0) (pv 0) T.c_Keep T.p_Keep_kept G2 (hr.mono (by decide)))) (blkOk_by (own := [("row", 7)]) (N := nsR) (sc := defScope s_Keep_raised) (by decide +kernel))
        (fun _ _ _ _ _ => pg_name (i := 7) sc_raised.nd rfl (Or.inl rfl)) (fun _ _ _ _ _ => pts_one (pt_cmp (pc_din hu (pv 7) (pe_dget hu (pe_fld (pv 0) rfl) (pv 1) (fun _ _ => rfl))) rfl)) (fun _ _ _ _ _ => pv 7))
      (pss_cons (ps_asg (pe_callB (cr_max rfl) (by rfl) T.f_max bi_max (pa_cons (pe_lst (pa_cons pe_int (StX.pa_star (pe_lc (own := [("row", 7)]) (g := gName 7) (te := tDGet (tFld K (tVar 0) "by") (tVar 7)) rfl sc_raised.nd (pi_list (pv 2)) (blkOk_by (own := [("row", 7)]) (N := nsR) (sc := defScope s_Keep_raised) (by decide +kernel))
        (fun _ _ _ _ _ => pg_name (i := 7) sc_raised.nd rfl (Or.inl rfl)) (fun _ _ _ _ _ => pts_nil) (fun _ _ _ _ _ => pe_dget hu (pe_fld (pv 0) rfl) (pv 7) (fun _ _ => rfl))) pa_nil))) pa_nil)) (pg_name (i := 3) sc_raised.nd rfl (Or.inr rfl)))
      (pss_cons (ps_setLc (i := 4) (own := [("row", 7)]) (g := gName 7) (tt := tAnd (tTest (tOp rEq (tDGet (tFld K (tVar 0) "by") (tVar 7)) (tVar 3))) (tTest (tOp (rI0 fun i j => .bl (decide (j < i))) (tDGet (tFld K (tVar 0) "order") (tVar 7)) (tDGet (tFld K (tVar 0) "order") (tVar 1))))) rfl sc_raised.nd rfl rfl (sw_true rfl rfl rfl rfl) (pi_list (pv 2)) (blkOk_by (own := [("row", 7)]) (N := nsR) (sc := defScope s_Keep_raised) (by decide +kernel))
        (fun _ _ _ _ _ => pg_name (i := 7) sc_raised.nd rfl (Or.inl rfl)) (fun _ _ _ _ _ => pts_one (PW.pt (pw_and (pt_cmpR op_eq (pe_dget hu (pe_fld (pv 0) rfl) (pv 7) (fun _ _ => rfl)) (pv 3) (nomark _)) (pw_and1 (pt_cmpR op_gt (pe_dget hu (pe_fld (pv 0) rfl) (pv 7) (fun _ _ => rfl)) (pe_dget hu (pe_fld (pv 0) rfl) (pv 1) (fun _ _ => rfl)) (nomark _)))))) (fun _ _ _ _ _ => pv 7))
      (pss_cons (ps_asg (pe_ifExp (pt_cmpR (op_neD hr.units) (pv 4) (pe_lst pa_nil) (nomark _)) (pe_op op_add (pv 3) pe_int) (pe_callB (call_max2 rfl) (by rfl) T.f_max bi_max (pa_cons (pv 3) (pa_cons pe_int pa_nil)))) (pg_name (i := 5) sc_raised.nd rfl (Or.inl rfl)))
      (pss_cons (ps_setLc (i := 6) (own := [("row", 7), ("number", 8)]) (g := gPair K 7 8) (te := tTup (tCons (tVar 7) (tCons (tOp (rI0 fun i j => .int (i + j)) (tVar 8) (tCB (fun xs H Q => (∃ i, xs = [.int i] ∧ Q (.int i) H) ∨ ∃ k, xs = [.bl k] ∧ Q (.int (if k then 1 else 0)) H) (tCons (tDIn (tVar 1) (tDGet (tFld K (tVar 0) "below") (tVar 7))) tNil))) tNil))) rfl sc_raised.nd rfl rfl (sw_true rfl rfl rfl rfl) (pi_tup (pe_fld (pv 0) rfl)) (blkOk_by (own := [("row", 7), ("number", 8)]) (N := nsR) (sc := defScope s_Keep_raised) (by decide +kernel))
        (fun _ _ _ _ _ => pg_tup (n := 2) rfl (pgs_cons (pg_name (i := 7) sc_raised.nd rfl (Or.inl rfl)) (pgs_cons (pg_name (i := 8) sc_raised.nd rfl (Or.inl rfl)) pgs_nil))) (fun _ _ _ _ _ => pts_nil)
        (fun _ _ _ _ _ => pe_tup (pa_cons (pv 7) (pa_cons (pe_op op_add (pv 8) (pe_callTy call_int1 (by rfl) T.f_int cs_int (pa_cons (pe_cmp (pc_din hu (pv 1) (pe_dget hu (pe_fld (pv 0) rfl) (pv 7) (fun _ _ => rfl))) rfl) pa_nil))) pa_nil))))
      (pss_one (ps_ret (pe_mkS T.mk_Keep G3 hr (passE (E := E) rfl rfl rfl rfl) (by rfl) T.g_Keep (pa_cons (pe_fld (pv 0) rfl) (pa_cons (pe_op op_add (pe_fld (pv 0) rfl) pe_int) (StX.pa_star (pv 6) (pa_cons (pe_tup (pa_cons (pv 1) (pa_cons (pv 5) pa_nil))) pa_nil)))))))))))), ?_⟩
    obtain ⟨dx, o, be, byy, ky, z, bks, bl, h1, h2, h3, h4, h5, h6, h7, h8⟩ := Ke.ex_
    obtain ⟨adb, hb1, hb2⟩ := h4.ex_
    have rl := D.len
    have kl := keyL_len rows ks
    have ord : ∀ {H1 : Hp} (e : Ex H H1) {σ : L2.St}, σ[0]? = some (some (.ref a)) → Ev (tFld K (tVar 0) "order") σ H1 (.ref o) := fun e _ hσ => ev_fld (ev_var hσ) (e _ _ h1) T.c_Keep T.n_Keep_order keF_order
    have fby : ∀ {H1 : Hp} (e : Ex H H1) {σ : L2.St}, σ[0]? = some (some (.ref a)) → Ev (tFld K (tVar 0) "by") σ H1 (.ref byy) := fun e _ hσ => ev_fld (ev_var hσ) (e _ _ h1) T.c_Keep T.n_Keep_by keF_by
    have fbe : ∀ {H1 : Hp} (e : Ex H H1) {σ : L2.St}, σ[0]? = some (some (.ref a)) → Ev (tFld K (tVar 0) "below") σ H1 (.ref be) := fun e _ hσ => ev_fld (ev_var hσ) (e _ _ h1) T.c_Keep T.n_Keep_below keF_below
    rcases hcase with ⟨hr1, kx⟩ | ⟨n, rfl, hn, hk, R⟩
    · refine q_when (b := true) ?_ (fun _ H1 e1 => ⟨v, rfl, v, rfl, fun d H2 n e2 h2 => kx d H2 (fresh_back e1 n) (e1.trans e2) h2⟩) (fun hb => by cases hb)
      rcases hr1 with ⟨tv, t1, t2⟩ | ⟨r, rfl, hr2⟩
      · exact et_is (et_or (a := true) (b := true) (et_is (et_not (et_B (b := false) (ev_isi (ev_var rfl) ev_c (.ty _) t1 t2))) rfl) (fun h => by cases h)) rfl
      · refine et_is (et_or (a := false) (b := !decide (r ∈ rows) || decide (r ∈ ks)) (et_is (et_not (et_B (ev_isi (ev_var rfl) ev_c (.ty _) (fun _ _ => ty_str) (b := true) (kit_ty (by decide +kernel))))) rfl) fun _ => et_or (et_B (ev_dnin (ev_var rfl) (ord (Ex.refl H) rfl) (.inl h3))) fun _ => et_B (ev_din (ev_var rfl) (fby (Ex.refl H) rfl) (.inl h7))) ?_
        rcases hr2 with h | h
        · rw [decide_eq_false h]; rfl
        · rw [decide_eq_true h, Bool.or_true, Bool.or_true]
    · refine q_when (b := false) (et_is (et_or (a := false) (b := !decide (n ∈ rows) || decide (n ∈ ks)) (et_is (et_not (et_B (ev_isi (ev_var rfl) ev_c (.ty _) (fun _ _ => ty_str) (b := true) (kit_ty (by decide +kernel))))) rfl) fun _ => et_or (et_B (ev_dnin (ev_var rfl) (ord (Ex.refl H) rfl) (.inl h3))) fun _ => et_B (ev_din (ev_var rfl) (fby (Ex.refl H) rfl) (.inl h7))) (by rw [decide_eq_true hn, decide_eq_false hk]; rfl)) (fun h => by cases h) fun _ H1 e1 => ?_
      have hnb := (h5 n).mpr hn
      -- under
      have eU := el_SP (K := K) (σ := [some (.ref a), some (.str n), none, none, none, none, none, none, none]) (H := H1) (tl := tGet (cK K) (spKept K) E0 (tVar 0)) (tt := tB (tDIn (tVar 7) (tDGet (tFld K (tVar 0) "below") (tVar 1)))) (te := tVar 7) (j := 7) (vs := [7]) (fun r => decide (r ∈ bl n)) V.str (xs := keyL rows ks)
        (evp_get (ev_var rfl) (e1 _ _ h1) fun H2 e Q k => ⟨a, s, rows, ks, nd, m, c, rfl, Ke.ex (e1.trans e), by omega, k⟩) (by omega) (fun x => rfl)
        (fun r H2 e hr => et_B (ev_din (ev_var rfl) (ev_dget (fbe (e1.trans e) rfl) (ev_var rfl) (.inl ((e1.trans e) _ _ hb1)) hnb) (.inl ((e1.trans e) _ _ (hb2 n hnb))))) fun r H2 e hr _ => ev_var rfl
      refine q_asgL eU fun pu H2 hpu e2 hu2 => ?_
      have e02 := e1.trans e2
      generalize hun : (keyL rows ks).filter (fun r => decide (r ∈ bl n)) = under at *
      have mU : ∀ r, r ∈ under ↔ r ∈ ks ∧ Dep nd r n := fun r => by
        rw [← hun, List.mem_filter, mem_keyL, decide_eq_true_iff, h6 n hnb]
        exact ⟨fun h => ⟨h.1.2, h.2⟩, fun h => ⟨⟨O.sub r h.1, h.1⟩, h.2⟩⟩
      have lU : under.length ≤ 12 := by rw [← hun]; exact Nat.le_trans (List.length_filter_le _ _) (by omega)
      change tSeq _ _ _ [some (.ref a), some (.str n), some (.ref pu), none, none, none, none, none, none] H2
      -- last
      have elc := el_SL (K := K) (σ := [some (.ref a), some (.str n), some (.ref pu), none, none, none, none, none, none]) (H := H2) (tl := tVar 2) (tt := tYes) (te := tDGet (tFld K (tVar 0) "by") (tVar 7)) (j := 7) (vs := [7]) (fun _ => true) (fun r => .int (c r)) (xs := under) (ev_var rfl) (sq_of hu2) (by omega) (fun x => rfl)
        (fun r H3 e hr => fun H4 e4 Q k => k H4 (Ex.refl H4)) fun r H3 e hr _ => ev_dget (fby (e02.trans e) rfl) (ev_var rfl) (.inl ((e02.trans e) _ _ h7)) ((mU r).mp hr).1
      have ell := el_lst (ea_cons (x := .int 0) (ev_c (σ := [some (.ref a), some (.str n), some (.ref pu), none, none, none, none, none, none]) (H := H2) (v := .int 0)) (ea_starN (K := K) elc ea_nil)) (by simp [List.filter_eq_self.mpr]; omega)
      have emap : (V.int 0 :: ((under.filter fun _ => true).map (fun r => V.int (c r)) ++ [])) = ((0 : Int) :: under.map c).map V.int := by
        rw [List.filter_eq_self.mpr (fun _ _ => rfl), List.append_nil, List.map_cons, List.map_map]
        rfl
      rw [emap] at ell
      refine q_asgP (evp_max (K := K) ell (by simp)) fun u H3 e3 hu3 => ?_
      obtain ⟨last, rfl, hl1, hl2⟩ := hu3
      have e03 := e02.trans e3
      change tSeq _ _ _ [some (.ref a), some (.str n), some (.ref pu), some (.int last), none, none, none, none, none] H3
      -- behind
      have eB := el_SL (K := K) (σ := [some (.ref a), some (.str n), some (.ref pu), some (.int last), none, none, none, none, none]) (H := H3) (tl := tVar 2) (tt := tAnd (tTest (tOp rEq (tDGet (tFld K (tVar 0) "by") (tVar 7)) (tVar 3))) (tTest (tOp (rI0 fun i j => .bl (decide (j < i))) (tDGet (tFld K (tVar 0) "order") (tVar 7)) (tDGet (tFld K (tVar 0) "order") (tVar 1))))) (te := tVar 7) (j := 7) (vs := [7])
        (fun r => decide (V.int (c r) = V.int last) && decide ((ix rows n : Int) < (ix rows r : Int))) V.str (xs := under) (ev_var rfl) (ex_l e3 (sq_of hu2)) (by omega) (fun x => rfl)
        (fun r H4 e hr => et_and (et_test (ev_eq (ev_dget (fby (e03.trans e) rfl) (ev_var rfl) (.inl ((e03.trans e) _ _ h7)) ((mU r).mp hr).1) (ev_var rfl) rfl)) fun _ => et_test (ev_op (ev_dget (ord (e03.trans e) rfl) (ev_var rfl) (.inl ((e03.trans e) _ _ h3)) (O.sub r ((mU r).mp hr).1)) (ev_dget (ord (e03.trans e) rfl) (ev_var rfl) (.inl ((e03.trans e) _ _ h3)) hn) rv_I0)) fun r H4 e hr _ => ev_var rfl
      refine q_asgL eB fun pb H4 hpb e4 hb4 => ?_
      have e04 := e03.trans e4
      generalize hbe : under.filter (fun r => decide (V.int (c r) = V.int last) && decide ((ix rows n : Int) < (ix rows r : Int))) = behind at *
      have mB : ∀ r, r ∈ behind ↔ r ∈ under ∧ c r = last ∧ ix rows n < ix rows r := fun r => by
        rw [← hbe, List.mem_filter, Bool.and_eq_true, decide_eq_true_iff, decide_eq_true_iff]
        exact ⟨fun h => ⟨h.1, by injection h.2.1, Int.ofNat_lt.mp h.2.2⟩, fun h => ⟨h.1, by rw [h.2.1], Int.ofNat_lt.mpr h.2.2⟩⟩
      change tSeq _ _ _ [some (.ref a), some (.str n), some (.ref pu), some (.int last), some (.ref pb), none, none, none, none] H4
      generalize hown : (if behind ≠ [] then last + 1 else if 1 > last then 1 else last) = own
      have W : OwnOk rows nd ks c n own := ⟨under, behind, last, mU, by
        rcases List.mem_cons.mp hl1 with h | h
        · exact .inl h
        · obtain ⟨r, hr, h'⟩ := List.mem_map.mp h
          exact .inr ⟨r, hr, h'⟩, hl2 0 (by simp), fun r hr => hl2 _ (List.mem_cons_of_mem _ (List.mem_map_of_mem hr)), mB, hown.symm⟩
      have okn : ∀ {ls : List Str}, (∀ r ∈ ls, r ∈ rows) → ∀ r ∈ ls, PyData.strOk r = true := fun h r hr => nm_ok (D.nam r (h r hr))
      have bR : ∀ r ∈ behind, r ∈ rows := fun r hr => O.sub r ((mU r).mp ((mB r).mp hr).1).1
      refine q_asg (v := .int own) (ev_if (b := !(behind.map PyData.str).isEmpty) (et_test (ev_ne0L (ev_dat (ev_var rfl) (.lst (sq_of hb4) (dpAll_S _))) (shaped_SL (okn bR)))) (fun hb => ?_) fun hb => ?_) fun H5 e5 => ?_
      · have hb' : behind ≠ [] := fun z => by rw [z] at hb; cases hb
        rw [if_pos hb'] at hown
        exact ev_is (ev_op (ev_var rfl) ev_c rv_I0) (by rw [hown])
      · have hb' : ¬ behind ≠ [] := fun z => by
          cases behind with
          | nil => exact z rfl
          | cons x y => cases hb
        rw [if_neg hb'] at hown
        exact ev_is (ev_max2 (i := last) (j := 1) (ev_var rfl) ev_c) (by rw [hown])
      have e05 := e04.trans e5
      change tSeq _ _ _ [some (.ref a), some (.str n), some (.ref pu), some (.int last), some (.ref pb), some (.int own), none, none, none] H5
      -- copies
      have eC := ec_C (K := K) (σ := [some (.ref a), some (.str n), some (.ref pu), some (.int last), some (.ref pb), some (.int own), none, none, none]) (H := H5) (tl := tFld K (tVar 0) "key") (tt := tYes) (te := tTup (tCons (tVar 7) (tCons (tOp (rI0 fun i j => .int (i + j)) (tVar 8) (tCB (fun xs H Q => (∃ i, xs = [.int i] ∧ Q (.int i) H) ∨ ∃ k, xs = [.bl k] ∧ Q (.int (if k then 1 else 0)) H) (tCons (tDIn (tVar 1) (tDGet (tFld K (tVar 0) "below") (tVar 7))) tNil))) tNil))) (i := 7) (j := 8) (vs := [7, 8])
        (fun _ => true) (fun d => (d.1, d.2 + (if decide (n ∈ bl d.1) then 1 else 0))) (xs := cpsOf c (keyL rows ks)) (ev_fld (ev_var rfl) (e05 _ _ h1) T.c_Keep T.n_Keep_key keF_key) (h8.ex e05) (by rw [cps_len]; omega) (fun x y => rfl)
        (fun d H6 e hd => fun H7 e7 Q k => k H7 (Ex.refl H7)) fun d H6 e hd _ => eu_tup (ea_cons (ev_var rfl) (ea_cons (ev_op (ev_var rfl) (ev_intB (ev_din (ev_var rfl) (ev_dget (fbe (e05.trans e) rfl) (ev_var rfl) (.inl ((e05.trans e) _ _ hb1)) ((h5 d.1).mpr (mem_keyL.mp (mem_cps hd).1).1)) (.inl ((e05.trans e) _ _ (hb2 d.1 ((h5 d.1).mpr (mem_keyL.mp (mem_cps hd).1).1)))))) rv_I0) ea_nil)) (by show 2 ≤ 100000; decide)
      have ek : ((cpsOf c (keyL rows ks)).filter fun _ => true).map (fun d => (d.1, d.2 + (if decide (n ∈ bl d.1) then 1 else 0))) = cpsOf (cR rows nd ks c n) (keyL rows ks) := by
        rw [List.filter_eq_self.mpr (fun _ _ => rfl)]
        unfold cpsOf
        rw [List.map_map]
        refine List.map_congr_left fun r hr => ?_
        have hrk := (mem_keyL.mp hr).2
        have hne : ¬ r = n := fun z => hk (z ▸ hrk)
        show (r, _) = (r, upC nd c n _ r)
        unfold upC
        rw [if_neg hne]
        by_cases hd : Dep nd n r
        · rw [if_pos hd, decide_eq_true ((h6 r ((h5 r).mpr (O.sub r hrk)) n).mpr hd), if_pos rfl]
        · rw [if_neg hd, decide_eq_false fun z => hd ((h6 r ((h5 r).mpr (O.sub r hrk)) n).mp z), if_neg (by decide)]
      rw [ek] at eC
      refine q_asgC eC fun pc H6 ad hpc e6 hc1 hc2 => ?_
      have e06 := e05.trans e6
      rw [cps_len] at hc1
      change tRet _ _ [some (.ref a), some (.str n), some (.ref pu), some (.int last), some (.ref pb), some (.int own), some (.ref pc), none, none] H6
      let σ6 : L2.St := [some (.ref a), some (.str n), some (.ref pu), some (.int last), some (.ref pb), some (.int own), some (.ref pc), none, none]
      have eA : ∀ Q' : List V → Hp → Prop, (∀ q H9, Ex H6 H9 → H9 q = some (.tup [.str n, .int own]) → Q' (.ref s :: .int (m + 1) :: (refs ad (keyL rows ks).length ++ [.ref q])) H9) → tCons (tFld K (tVar 0) "base") (tCons (tOp (rI0 fun i j => .int (i + j)) (tFld K (tVar 0) "many") (tC (.int 1))) (StX.tStar K (tVar 6) (tCons (tTup (tCons (tVar 1) (tCons (tVar 5) tNil))) tNil))) σ6 H6 Q' := fun Q' k' => by
        refine ev_fld (σ := σ6) (H := H6) (ta := tVar 0) (ev_var rfl) (e06 _ _ h1) T.c_Keep T.n_Keep_base keF_base H6 (Ex.refl H6) _ fun H7 e7 => ?_
        refine ev_op (r := rI0 fun i j => .int (i + j)) (σ := σ6) (H := H6) (ta := tFld K (tVar 0) "many") (tb := tC (.int 1)) (ev_fld (ev_var rfl) (e06 _ _ h1) T.c_Keep T.n_Keep_many keF_many) ev_c rv_I0 H7 e7 _ fun H8 e8 => ?_
        have e68 := e7.trans e8
        refine ⟨.ref pc, rfl, pc, _, rfl, .inr (sq_of (e68 _ _ hc1)), ?_⟩
        exact eu_tup (σ := σ6) (H := H6) (ta := tCons (tVar 1) (tCons (tVar 5) tNil)) (vs := [.str n, .int own]) (ea_cons (ev_var rfl) (ea_cons (ev_var rfl) ea_nil)) (by show 2 ≤ 100000; decide) H8 e68 _ fun q H9 hq e9 h9 => k' q H9 (e68.trans e9) h9
      unfold tRet StX.tMakeR
      refine eA _ fun q H9 e69 h9 => ?_
      have e09 := e06.trans e69
      have kld : (ksR rows ks n).length = (keyL rows ks).length + 1 := by simp [ksR]
      have mk := make_keep (K := K) (H := H9) (Q := Q) (E := E) (s := s) (k := m + 1) (rows := rows) (ks := ksR rows ks n) (nd := nd) (c := cR rows nd ks c n) (ad := fun i => if i = (keyL rows ks).length then q else ad i) (h2.ex e09) D (by omega) (fun i d hd => ?_) ⟨fun g1 g2 => ?_, fun g => (R.bad g).go e09, fun g1 g2 => (R.many g1 g2).go e09⟩
      · have er : refs (fun i => if i = (keyL rows ks).length then q else ad i) (ksR rows ks n).length = refs ad (keyL rows ks).length ++ [.ref q] := by
          rw [kld, refs_succ, if_pos rfl, refs_congr fun i hi => ?_]
          rw [if_neg (Nat.ne_of_lt hi)]
        rw [er] at mk
        exact mk
      · unfold CpAt
        by_cases hi : i = (keyL rows ks).length
        · dsimp only
          rw [if_pos hi]
          have := cps_at hd
          obtain ⟨r, hr, rfl⟩ := this
          have hr' : r = n := by
            rw [hi] at hr
            unfold ksR at hr
            rw [List.getElem?_append_right (Nat.le_refl _), Nat.sub_self] at hr
            exact (Option.some.inj hr).symm
          subst hr'
          have ho : cR rows nd ks c r r = own := by
            show upC nd c r _ r = own
            unfold upC
            rw [if_pos rfl]
            exact own_F W
          dsimp only
          rw [ho]
          exact h9
        · dsimp only
          rw [if_neg hi]
          have := cps_at hd
          obtain ⟨r, hr, rfl⟩ := this
          have hlt : i < (ksR rows ks n).length := (List.getElem?_eq_some_iff.mp hr).1
          have hlt' : i < (keyL rows ks).length := by omega
          unfold ksR at hr
          rw [List.getElem?_append_left hlt'] at hr
          refine e69 _ _ (hc2 i (r, cR rows nd ks c n r) ?_)
          unfold cpsOf
          rw [List.getElem?_map, hr]
          rfl
      · have K2 := raise_ok D O hm hn hk W
        rw [← own_F W] at K2
        exact ⟨K2, (R.good g1 g2 K2).go e09⟩
theorem ok_raised (T : Tx K mg) : FnR P w K mg base (L2.CX P w) 8 (He.ma K (cK K) "raised") (spRaised K) := by
  obtain ⟨fd, F, G⟩ := ok_raisedF (P := P) (w := w) (base := base) T
  exact (G.raw (F.bindsN fun _ _ _ _ _ _ us hl => match us, hl with | [_, _], _ => rfl) .nil).imp fun vs H Q E h => by
    rw [List.append_nil]
    exact h
end
end K29
set_option Elab.async false
set_option linter.all false
set_option maxRecDepth 100000
set_option maxHeartbeats 4000000
/-! The law's pen: _law_pen, _law_draw. -/
namespace K29
open PySem PySem.Spec PyProof.Rows L2 Evl
section
variable {K : PySem.W.Frag} {σ : L2.St} {H H' : Hp} {te ta tb to ti : TE} {x y z v : V} {D : Ends} {tz : TS}
/-- o[i] = v for a list -/
theorem q_setL {p : Addr} {xs : List V} {i : Int} {j : Nat} (h : Ev te σ H v) (ho : Ev to σ H (.ref p)) (hi : Ev ti σ H (.int i)) (hp : H p = some (.lst xs)) (hj : ixN xs.length i = some j) (k : ∀ H1, Ex H H1 → tz D σ (upd H1 p (.lst (xs.set j v)))) : tSeq (tAsg te (gSub to ti rSetL)) tz D σ H :=
  h H (Ex.refl H) _ fun H1 e1 => ho H1 e1 _ fun H2 e2 => hi H2 (e1.trans e2) _ fun H3 e3 => ⟨p, xs, i, j, rfl, rfl, ((e1.trans e2).trans e3) _ _ hp, hj, k H3 ((e1.trans e2).trans e3)⟩
theorem ev_absI {i : Int} (ha : Ev ta σ H (.int i)) : Ev (tCB (fun xs H Q => ∃ i, xs = [.int i] ∧ Q (.int (if i < 0 then -i else i)) H) (tCons ta tNil)) σ H (.int (if i < 0 then -i else i)) := fun H1 e Q q => ha H1 e _ fun H2 e2 => ⟨i, rfl, q H2 e2⟩
theorem ev_lenS {p : Addr} {xs : List V} (ha : Ev ta σ H (.ref p)) (h : SqL K H p xs) : Ev (tCB (fun vs H Q => ∃ p ys, vs = [.ref p] ∧ (SqL K H p ys ∨ SqT K H p ys) ∧ Q (.int ys.length) H) (tCons ta tNil)) σ H (.int (xs.length : Int)) := fun H1 e Q q =>
  ha H1 e _ fun H2 e2 => ⟨p, xs, rfl, .inl (ex_l (e.trans e2) h), q H2 e2⟩
/-- if t: x = e -/
theorem q_ifAsg {t : TT} {b : Bool} {i : Nat} {R : V → Prop} (h : EvT t σ H b) (h1 : b = true → ∃ v, R v ∧ Ev te σ H v) (h0 : b = false → ∃ v, R v ∧ σ.set i (some v) = σ) (k : ∀ v H1, Ex H H1 → R v → tz D (σ.set i (some v)) H1) : tSeq (tIfS t (tAsg te (gName i)) tNext) tz D σ H :=
  q_when h (fun hb H1 e1 => by
    obtain ⟨v, r, hv⟩ := h1 hb
    exact hv H1 e1 _ fun H2 e2 => k v H2 (e1.trans e2) r) fun hb H1 e1 => by
    obtain ⟨v, r, hv⟩ := h0 hb
    have := k v H1 e1 r
    rw [hv] at this
    exact this
theorem el_listN {xs : List V} (h : EvL te σ H xs) : EvL (tCB (fun xs H Q => ∃ p ys, xs = [.ref p] ∧ (SqL K H p ys ∨ SqT K H p ys) ∧ ∀ l, H l = none → Q (.ref l) (upd H l (.lst ys))) (tCons te tNil)) σ H xs := fun H1 e Q q =>
  h H1 e _ fun p H2 hp e2 h2 => ⟨p, xs, rfl, .inl (sq_of h2), fun l hl => q l _ (fresh_back e2 hl) (e2.trans (Ex.new hl)) upd_same⟩
theorem el_listE {p : Addr} {xs : List V} (h : Ev te σ H (.ref p)) (hp : SqL K H p xs ∨ SqT K H p xs) : EvL (tCB (fun xs H Q => ∃ p ys, xs = [.ref p] ∧ (SqL K H p ys ∨ SqT K H p ys) ∧ ∀ l, H l = none → Q (.ref l) (upd H l (.lst ys))) (tCons te tNil)) σ H xs := fun H1 e Q q =>
  h H1 e _ fun H2 e2 => ⟨p, xs, rfl, hp.elim (fun h => .inl (ex_l (e.trans e2) h)) (fun h => .inr (ex_t (e.trans e2) h)), fun l hl => q l _ (fresh_back e2 hl) (e2.trans (Ex.new hl)) upd_same⟩
end
theorem dpAll_I {K : PySem.W.Frag} {H : Hp} (xs : List Int) : DpAll K H (xs.map V.int) (xs.map PyData.int) := dpAll_map _ _ xs fun x _ => .int x
theorem shaped_I {xs : List Int} : SeqAt.shaped (.list (xs.map PyData.int)) = true := shaped_l (all_lay _ xs fun x _ => by simp [PyData.canLay0]) (Nat.le_trans (all_depth _ 0 xs fun x _ => by simp [PyData.depth]) (by decide))
/-- what draws: the cells, the next one's number, the rest of a great one -/
structure PenAt (H : Hp) (p c : Addr) (ns : List Int) (turn : Nat) (great : Int) : Prop where
  hp : H p = some (.lst [.ref c, .int turn, .int great])
  hc : H c = some (.lst (ns.map V.int))
  ne : c ≠ p
  gr : 0 ≤ great
theorem PenAt.ex {H H' : Hp} {p c : Addr} {ns : List Int} {turn : Nat} {great : Int} (k : PenAt H p c ns turn great) (e : Ex H H') : PenAt H' p c ns turn great := ⟨e _ _ k.hp, e _ _ k.hc, k.ne, k.gr⟩
/-- a state of the pen after at most so many draws -/
def Pen (H : Hp) (p c : Addr) (t : Nat) : Prop := ∃ ns turn great, PenAt H p c ns turn great ∧ turn ≤ t
theorem Pen.ex {H H' : Hp} {p c : Addr} {t : Nat} (k : Pen H p c t) (e : Ex H H') : Pen H' p c t := let ⟨ns, u, g, k1, k2⟩ := k; ⟨ns, u, g, k1.ex e, k2⟩
theorem Pen.mut {H : Hp} {p c L : Addr} {t : Nat} {o : HO} (k : Pen H p c t) (h1 : L ≠ p) (h2 : L ≠ c) : Pen (upd H L o) p c t := let ⟨ns, u, g, k1, k2⟩ := k; ⟨ns, u, g, ⟨by rw [upd_ne (Ne.symm h1)]; exact k1.hp, by rw [upd_ne (Ne.symm h2)]; exact k1.hc, k1.ne, k1.gr⟩, k2⟩
theorem Pen.new {H : Hp} {p c L : Addr} {t : Nat} (k : Pen H p c t) (h : H L = none) : L ≠ p ∧ L ≠ c := by
  obtain ⟨ns, u, g, k1, k2⟩ := k
  refine ⟨fun z => ?_, fun z => ?_⟩
  · rw [z, k1.hp] at h
    cases h
  · rw [z, k1.hc] at h
    cases h
theorem Pen.le {H : Hp} {p c : Addr} {t u : Nat} (k : Pen H p c t) (h : t ≤ u) : Pen H p c u := let ⟨ns, w, g, k1, k2⟩ := k; ⟨ns, w, g, k1, Nat.le_trans k2 h⟩
section
variable {P : Program} {w : World} {K : PySem.W.Frag} {mg : Str → Option Value} {base : Heap}
theorem sc_law_pen : FnScope ["_law_script"] ["_law_script"] (defScope s_law_pen) := ⟨rfl, rfl, rfl, by decide +kernel, rfl, by decide +kernel, by decide +kernel⟩
def spLawPen (K : PySem.W.Frag) : Sp := fun vs H Q _ => ∃ (l : Addr) (ns : List Int), vs = [.ref l] ∧ SqL K H l (ns.map V.int) ∧ RetP (fun v H2 => ∃ p c, v = .ref p ∧ Pen H2 p c 0) H Q
theorem ok_law_pen (T : Tx K mg) : FnR P w K mg base CX0 1 (He.ga K "_law_pen") (spLawPen K) := by
  refine fnr T.d_law_pen sc_law_pen (fun _ _ _ _ _ _ us hl => match us, hl with | [_], _ => rfl) (fun vs H Q E h => by obtain ⟨l, ns, rfl, _⟩ := h; rfl) fun cdv A outer s H vs Q E hr h => ?_
  obtain ⟨l, ns, rfl, hl, k⟩ := h
  refine ⟨_, pss_one (ps_ret (pe_lst (pa_cons (pe_callTy call_list_of (by rfl) T.f_list cs_list (pa_cons (pe_slice sl_list (pv 0) po_none (po_some pe_int)) pa_nil)) (pa_cons pe_int (pa_cons pe_int pa_nil))))), ?_⟩
  have ec : ∃ ms : List Int, cutV (ns.map V.int) none (some 63) = ms.map V.int := ⟨_, by unfold cutV; rw [← List.map_drop, ← List.map_take]⟩
  obtain ⟨ms, ec⟩ := ec
  have el := el_listN (K := K) (el_sl (K := K) (σ := [some (.ref l)]) (H := H) (te := tVar 0) (lo := none) (hi := some 63) (ev_var rfl) eo_none (eo_some ev_c) hl)
  rw [ec] at el
  unfold tRet tLst tCons
  refine el H (Ex.refl H) _ fun c H2 hc e2 h2 => ⟨sz_of (by show 3 ≤ 100000; decide), fun p hp => k _ _ (e2.trans (Ex.new hp)) ⟨p, c, rfl, ms, 0, 0, ⟨upd_same, ?_, ?_, Int.le_refl 0⟩, Nat.le_refl 0⟩⟩
  · rw [upd_ne fun z => ?_]
    · exact h2
    · rw [z, hp] at h2
      cases h2
  · intro z
    rw [z, hp] at h2
    cases h2
abbrev nsD : List Str := ["_law_pen_here", "_law_size_here", "_law_digit", "_law_turn", "_law_cell", "_law_great", "_law_mixed"]
theorem sc_law_draw : FnScope nsD ["_law_pen_here", "_law_size_here"] (defScope s_law_draw) := ⟨rfl, rfl, rfl, by decide +kernel, rfl, by decide +kernel, by decide +kernel⟩
/-- a drawn number -/
def spDraw : Sp := fun vs H Q _ => ∃ (p c : Addr) (size : Int) (t : Nat), vs = [.ref p, .int size] ∧ Pen H p c t ∧ t < 10000 ∧ 1 ≤ size ∧ size ≤ 1000 ∧ ∀ (r : Nat) H2, ExB p H H2 → Pen H2 p c (t + 1) → (r : Int) < size → Q (.int r) H2
theorem ok_law_draw (T : Tx K mg) : FnR P w K mg base CX0 1 (He.ga K "_law_draw") spDraw := by
  refine fnr T.d_law_draw sc_law_draw (fun _ _ _ _ _ _ us hl => match us, hl with | [_, _], _ => rfl) (fun vs H Q E h => by obtain ⟨p, c, size, t, rfl, _⟩ := h; rfl) fun cdv A outer s H vs Q E hr h => ?_
  obtain ⟨p, c, size, t, rfl, ⟨ns, turn, great, N, ht⟩, t4, s1, s2, k⟩ := h
  have hnd := sc_law_draw.nd
  refine ⟨_, pss_cons (ps_if (pt_cmpR op_gt (pe_l (pv 0)) pe_int (nomark _))
      (pss_cons (ps_asg (pe_op op_mod (pe_l (pv 0)) (pv 1)) (pg_name (i := 2) hnd rfl (Or.inl rfl)))
      (pss_cons (ps_asg (pe_op op_fdiv (pe_l (pv 0)) (pv 1)) (pg_sub (pv 0) pe_int set_list))
      (pss_one (ps_ret (pv 2))))) pss_nil)
    (pss_cons (ps_asg (pe_l (pv 0)) (pg_name (i := 3) hnd rfl (Or.inl rfl)))
    (pss_cons (ps_asg (pe_op op_add (pv 3) pe_int) (pg_sub (pv 0) pe_int set_list))
    (pss_cons (ps_asg (pe_op op_add (pe_op op_mul pe_int (pv 3)) pe_int) (pg_name (i := 4) hnd rfl (Or.inl rfl)))
    (pss_cons (ps_if (pt_cmpR (op_neD hr.units) (pe_l (pv 0)) (pe_lst pa_nil) (nomark _))
      (pss_one (ps_asg (pe_ix ix_list (pe_l (pv 0)) (pe_op op_mod (pv 3) (pe_callB call_len_seq (by rfl) T.f_len PySem.boot_len (pa_cons (pe_l (pv 0)) pa_nil))) fun _ _ => rfl) (pg_name (i := 4) hnd rfl (Or.inl rfl)))) pss_nil)
    (pss_cons (ps_if (PW.pt (pw_and (pt_cmpR op_lt (pv 3) (pe_callB call_len_seq (by rfl) T.f_len PySem.boot_len (pa_cons (pe_l (pv 0)) pa_nil)) (nomark _)) (pw_and1 (pt_cmpR op_ge (pe_callB call_abs (by rfl) T.f_abs bi_abs (pa_cons (pv 4) pa_nil)) (pe_op op_pow pe_int pe_int) (nomark _)))))
      (pss_cons (ps_asg (pe_op op_add (pe_op op_mul pe_int (pe_callB call_abs (by rfl) T.f_abs bi_abs (pa_cons (pv 4) pa_nil))) (pe_callTy call_int1 (by rfl) T.f_int cs_int (pa_cons (pe_cmpR op_lt (pv 4) pe_int (nomark _)) pa_nil))) (pg_name (i := 5) hnd rfl (Or.inl rfl)))
      (pss_cons (ps_asg (pe_op op_fdiv (pv 5) (pv 1)) (pg_sub (pv 0) pe_int set_list))
      (pss_one (ps_ret (pe_op op_mod (pv 5) (pv 1)))))) pss_nil)
    (pss_cons (ps_asg (pe_op op_mod (pe_op op_pow (pe_op op_add (pe_op op_add (pe_op op_mod (pv 4) pe_int) (pe_op op_mul pe_int (pv 3))) pe_int) pe_int) pe_int) (pg_name (i := 6) hnd rfl (Or.inl rfl)))
    (pss_cons (ps_asg (pe_op op_mod (pe_op op_pow (pe_op op_add (pe_op op_mul (pv 6) (pe_op op_add (pv 3) pe_int)) (pe_op op_mul (pe_op op_mul pe_int (pv 3)) (pv 3))) pe_int) pe_int) (pg_name (i := 6) hnd rfl (Or.inl rfl)))
    (pss_one (ps_ret (pe_op op_mod (pe_op op_fdiv (pv 6) pe_int) (pv 1))))))))))), ?_⟩
  have s0 : (0:Int) < size := by omega
  have fin : ∀ {H1 H3 : Hp} {u : Nat} {g g' : Int} (N1 : PenAt H1 p c ns u g) (b1 : ExB p H H1) (e : Ex H1 H3) (u' : Nat), u' ≤ t + 1 → 0 ≤ g' → ExB p H (upd H3 p (.lst [.ref c, .int u', .int g'])) ∧ PenAt (upd H3 p (.lst [.ref c, .int u', .int g'])) p c ns u' g' ∧ Pen (upd H3 p (.lst [.ref c, .int u', .int g'])) p c (t + 1) := fun {H1 H3 u g g'} N1 b1 e u' hu hg => by
    have N2 : PenAt (upd H3 p (.lst [.ref c, .int u', .int g'])) p c ns u' g' := ⟨upd_same, by rw [upd_ne N1.ne]; exact e _ _ N1.hc, N1.ne, hg⟩
    exact ⟨b1.trans ((ExB.ex e).trans ExB.upd), N2, ns, u', g', N2, hu⟩
  have out : ∀ {v : Int} {H1 : Hp}, ExB p H H1 → Pen H1 p c (t + 1) → 0 ≤ v → v < size → Q (.int v) H1 := fun b n h0 h1 => by
    have := k _ _ b n (by rw [Int.toNat_of_nonneg h0]; exact h1)
    rw [Int.toNat_of_nonneg h0] at this
    exact this
  refine q_when (b := decide (0 < great)) (et_test (ev_op (ev_ixL (i := 2) (ev_var rfl) (sq_of N.hp) rfl) ev_c rv_I0)) (fun hb H1 e1 => ?_) (fun hb H1 e1 => ?_)
  · have N1 := N.ex e1
    refine q_asg (v := .int (great % size)) (ev_op (ev_ixL (i := 2) (ev_var rfl) (sq_of N1.hp) rfl) (ev_var rfl) (rv_I s0)) fun H2 e2 => ?_
    have N2 := N1.ex e2
    refine q_setL (v := .int (great / size)) (j := 2) (ev_op (ev_ixL (i := 2) (ev_var rfl) (sq_of N2.hp) rfl) (ev_var rfl) (rv_I ⟨s0, by omega⟩)) (ev_var rfl) ev_c N2.hp rfl fun H3 e3 => ?_
    obtain ⟨b3, _, P3⟩ := fin (g' := great / size) N2 (ExB.ex (e1.trans e2)) e3 turn (by omega) (Int.ediv_nonneg N.gr (by omega))
    exact s_ret (v := .int (great % size)) (ev_var rfl) fun H4 e4 => out (b3.trans (ExB.ex e4)) (P3.ex e4) (Int.emod_nonneg _ (by omega)) (Int.emod_lt_of_pos _ s0)
  have N1 := N.ex e1
  refine q_asg (v := .int (turn : Int)) (ev_ixL (i := 1) (ev_var rfl) (sq_of N1.hp) rfl) fun H2 e2 => ?_
  have N2 := N1.ex e2
  refine q_setL (v := .int ((turn + 1 : Nat) : Int)) (j := 1) (ev_is (ev_op (ev_var (v := .int (turn : Int)) rfl) ev_c rv_I0) (by rw [Int.natCast_succ])) (ev_var rfl) ev_c N2.hp rfl fun H3 e3 => ?_
  obtain ⟨b4, N4, _⟩ := fin (g' := great) N2 (ExB.ex (e1.trans e2)) e3 (turn + 1) (by omega) N.gr
  change tSeq _ _ _ [some (.ref p), some (.int size), none, some (.int (turn : Int)), none, none, none] (upd H3 p (.lst [.ref c, .int ((turn + 1 : Nat) : Int), .int great]))
  generalize upd H3 p (.lst [.ref c, .int ((turn + 1 : Nat) : Int), .int great]) = H4 at *
  have tb : (0 : Int) ≤ (turn : Int) ∧ (turn : Int) < 10000 := by omega
  refine q_asg (v := .int (158260 * (turn : Int) + 4636)) (ev_op (ev_op ev_c (ev_var rfl) (rv_I (.inl (by constructor <;> omega)))) ev_c rv_I0) fun H5 e5 => ?_
  have N5 := N4.ex e5
  refine q_ifAsg (b := !(ns.map PyData.int).isEmpty) (R := fun v => ∃ i : Int, v = .int i) (et_test (ev_ne0L (ev_dat (ev_ixL (i := 0) (ev_var rfl) (sq_of N5.hp) rfl) (.lst (sq_of N5.hc) (dpAll_I _))) shaped_I)) (fun hb => ?_) (fun _ => ⟨_, ⟨_, rfl⟩, rfl⟩) fun v H6 e6 hv => ?_
  · have hn : 0 < ns.length := by
      cases ns with
      | nil => cases hb
      | cons _ _ => exact Nat.succ_pos _
    have hm : turn % ns.length < ns.length := Nat.mod_lt _ hn
    refine ⟨.int (ns[turn % ns.length]), ⟨_, rfl⟩, ev_op (ev_ixL (i := 0) (ev_var rfl) (sq_of N5.hp) rfl) (ev_op (ev_var (v := .int (turn : Int)) rfl) (ev_lenS (ev_ixL (i := 0) (ev_var rfl) (sq_of N5.hp) rfl) (sq_of N5.hc)) (rv_I (by rw [List.length_map]; omega))) (rv_ixL (sq_of N5.hc) ?_)⟩
    rw [List.length_map, ← Int.natCast_emod]
    exact at_of rfl (by rw [List.getElem?_map, List.getElem?_eq_getElem hm]; rfl)
  obtain ⟨cell, rfl⟩ := hv
  have N6 := N5.ex e6
  have b6 := b4.trans (ExB.ex (e5.trans e6))
  change tSeq _ _ _ [some (.ref p), some (.int size), none, some (.int (turn : Int)), some (.int cell), none, none] H6
  refine q_when (et_and (et_test (ev_op (ev_var rfl) (ev_lenS (ev_ixL (i := 0) (ev_var rfl) (sq_of N6.hp) rfl) (sq_of N6.hc)) rv_I0)) fun _ => et_test (ev_op (ev_absI (ev_var rfl)) (ev_op (x := .int 10) (y := .int 18) ev_c ev_c (rv_I ⟨by decide, by decide, by decide⟩)) rv_I0)) (fun _ H7 e7 => ?_) (fun _ H7 e7 => ?_)
  · have N7 := N6.ex e7
    obtain ⟨gr, hgr⟩ : ∃ gr : Int, gr = 2 * (if cell < 0 then -cell else cell) + (if decide (cell < 0) = true then 1 else 0) := ⟨_, rfl⟩
    have g0 : 0 ≤ gr := by
      rw [hgr]
      split <;> split <;> omega
    refine q_asg (v := .int gr) (ev_is (ev_op (ev_op (x := .int 2) ev_c (ev_absI (ev_var rfl)) (rv_I (.inl (by constructor <;> decide)))) (ev_intB (b := decide (cell < 0)) (ev_op (ev_var rfl) ev_c rv_I0)) rv_I0) (by rw [hgr])) fun H8 e8 => ?_
    have N8 := N7.ex e8
    refine q_setL (v := .int (gr / size)) (j := 2) (ev_op (ev_var (v := .int gr) rfl) (ev_var rfl) (rv_I ⟨s0, by omega⟩)) (ev_var rfl) ev_c N8.hp rfl fun H9 e9 => ?_
    obtain ⟨b9, _, P9⟩ := fin (g' := gr / size) N8 (b6.trans (ExB.ex (e7.trans e8))) e9 (turn + 1) (by omega) (Int.ediv_nonneg g0 (by omega))
    exact s_ret (v := .int (gr % size)) (ev_op (ev_var (v := .int gr) rfl) (ev_var rfl) (rv_I s0)) fun H10 e10 => out (b9.trans (ExB.ex e10)) (P9.ex e10) (Int.emod_nonneg _ (by omega)) (Int.emod_lt_of_pos _ s0)
  · have N7 := N6.ex e7
    have c0 : 0 ≤ cell % 2147483543 := Int.emod_nonneg _ (by decide)
    have c1 : cell % 2147483543 < 2147483543 := Int.emod_lt_of_pos _ (by decide)
    obtain ⟨m1, hm1⟩ : ∃ m : Int, m = (cell % 2147483543 + 646170 * (turn : Int) + 1942) ^ (5 : Int).toNat % 2147483423 := ⟨_, rfl⟩
    have m1a : 0 ≤ m1 := by rw [hm1]; exact Int.emod_nonneg _ (by decide)
    have m1b : m1 < 2147483423 := by rw [hm1]; exact Int.emod_lt_of_pos _ (by decide)
    refine q_asg (v := .int m1) (ev_is (ev_op (y := .int 2147483423) (ev_op (y := .int 5) (ev_op (ev_op (ev_op (y := .int 2147483543) (ev_var (v := .int cell) rfl) ev_c (rv_I (by decide))) (ev_op (x := .int 646170) ev_c (ev_var rfl) (rv_I (.inl (by constructor <;> decide)))) rv_I0) (y := .int 1942) ev_c rv_I0) ev_c (rv_I ⟨by decide, by decide, by omega⟩)) ev_c (rv_I (by decide))) (by rw [hm1])) fun H8 e8 => ?_
    have p1 : m1 * ((turn : Int) + 61450) ≤ 2147483423 * 71450 := Int.mul_le_mul (by omega) (by omega) (by omega) (by omega)
    have p0 : 0 ≤ m1 * ((turn : Int) + 61450) := Int.mul_nonneg m1a (by omega)
    have q1 : 84454 * (turn : Int) * (turn : Int) ≤ 84454 * 10000 * 10000 := Int.mul_le_mul (by omega) (by omega) (by omega) (by omega)
    have q0 : 0 ≤ 84454 * (turn : Int) * (turn : Int) := Int.mul_nonneg (by omega) (by omega)
    obtain ⟨m2, hm2⟩ : ∃ m : Int, m = (m1 * ((turn : Int) + 61450) + 84454 * (turn : Int) * (turn : Int)) ^ (3 : Int).toNat % 2147483629 := ⟨_, rfl⟩
    refine q_asg (v := .int m2) (ev_is (ev_op (y := .int 2147483629) (ev_op (y := .int 3) (ev_op (ev_op (ev_var (v := .int m1) rfl) (ev_op (ev_var (v := .int (turn : Int)) rfl) (y := .int 61450) ev_c rv_I0) (rv_I (.inl (by constructor <;> omega)))) (ev_op (ev_op (x := .int 84454) ev_c (ev_var (v := .int (turn : Int)) rfl) (rv_I (.inl (by constructor <;> decide)))) (ev_var (v := .int (turn : Int)) rfl) (rv_I (.inr (by constructor <;> omega)))) rv_I0) ev_c (rv_I ⟨by decide, by decide, by omega⟩)) ev_c (rv_I (by decide))) (by rw [hm2])) fun H9 e9 => ?_
    have e79 := e7.trans (e8.trans e9)
    exact s_ret (v := .int (m2 / 32 % size)) (ev_op (ev_op (y := .int 32) (ev_var (v := .int m2) rfl) ev_c (rv_I ⟨by decide, by decide⟩)) (ev_var rfl) (rv_I s0)) fun H10 e10 => out (b6.trans (ExB.ex (e79.trans e10))) ⟨ns, turn + 1, great, N6.ex (e79.trans e10), by omega⟩ (Int.emod_nonneg _ (by omega)) (Int.emod_lt_of_pos _ s0)
end
end K29
set_option Elab.async false
set_option linter.all false
set_option maxRecDepth 100000
set_option maxHeartbeats 4000000
/-! _law_size, _law_names. -/
namespace K29
open PySem PySem.Spec PyProof.Rows L2 Evl
section
variable {K : PySem.W.Frag} {σ : L2.St} {H H' : Hp} {te ta tb to ti : TE} {Q : VK}
variable {tr : TA} {QA : List V → Hp → Prop} {D : Ends} {tz : TS} {r : R2} {x y v : V} {i : Nat}
theorem x_cons (h : ta σ H fun x H1 => tr σ H1 fun xs H2 => QA (x :: xs) H2) : tCons ta tr σ H QA := h
theorem x_nil (h : QA [] H) : tNil σ H QA := h
theorem x_op (h : ta σ H fun x H1 => tb σ H1 fun y H2 => r x y H2 Q) : tOp r ta tb σ H Q := h
theorem x_asg (h : te σ H fun x H1 => tz D (σ.set i (some x)) H1) : tSeq (tAsg te (gName i)) tz D σ H := h
theorem x_lst {t : TA} (h : t σ H fun xs H1 => xs.length ≤ sizeLine ∧ ∀ p, H1 p = none → Q (.ref p) (upd H1 p (.lst xs))) : tLst t σ H Q := h
theorem x_tup {t : TA} (h : t σ H fun xs H1 => xs.length ≤ sizeLine ∧ ∀ p, H1 p = none → Q (.ref p) (upd H1 p (.tup xs))) : tTup t σ H Q := h
theorem x_ret (h : te σ H D.rt) : tRet te D σ H := h
theorem x_ev (h : Ev te σ H v) (k : ∀ H1, Ex H H1 → Q v H1) : te σ H Q := h H (Ex.refl H) Q k
theorem ev_min2 {i j : Int} (ha : Ev ta σ H (.int i)) (hb : Ev tb σ H (.int j)) : Ev (tCB (fun xs H Q => ∃ i j, xs = [.int i, .int j] ∧ Q (.int (if j < i then j else i)) H) (tCons ta (tCons tb tNil))) σ H (.int (if j < i then j else i)) := fun H1 e Q q =>
  ha H1 e _ fun H2 e2 => hb H2 (e.trans e2) _ fun H3 e3 => ⟨i, j, rfl, q H3 (e2.trans e3)⟩
theorem x_draw {p c : Addr} {size : Int} {t : Nat} (ha : Ev ta σ H (.ref p)) (hb : Ev tb σ H (.int size)) (Pn : Pen H p c t) (ht : t < 10000) (h1 : 1 ≤ size) (h2 : size ≤ 1000)
    (k : ∀ (r : Nat) H2, ExB p H H2 → Pen H2 p c (t + 1) → (r : Int) < size → Q (.int r) H2) : tFn spDraw E0 (tCons ta (tCons tb tNil)) σ H Q :=
  ha H (Ex.refl H) _ fun H1 e1 => hb H1 e1 _ fun H2 e2 => ⟨p, c, size, t, rfl, Pn.ex (e1.trans e2), ht, h1, h2, fun r H3 b P hr => k r H3 ((ExB.ex (e1.trans e2)).trans b) P hr⟩
end
section
variable {P : Program} {w : World} {K : PySem.W.Frag} {mg : Str → Option Value} {base : Heap}
abbrev nsZ : List Str := ["_law_pen_here", "_law_most", "_law_many"]
theorem sc_law_size : FnScope nsZ ["_law_pen_here", "_law_most"] (defScope s_law_size) := ⟨rfl, rfl, rfl, by decide +kernel, rfl, by decide +kernel, by decide +kernel⟩
def spSize : Sp := fun vs H Q _ => ∃ (p c : Addr) (t : Nat), vs = [.ref p, .int 40] ∧ Pen H p c t ∧ t + 5 < 10000 ∧ ∀ (q : Addr) (m n : Nat) H2, ExB p H H2 → Pen H2 p c (t + 5) → H2 q = some (.tup [.int m, .int n]) → m ≤ 12 → 1 ≤ n → n ≤ 40 → m * n ≤ 40 → Q (.ref q) H2
theorem ok_law_size (T : Tx K mg) : FnR P w K mg base CX0 2 (He.ga K "_law_size") spSize := by
  have G := ok_law_draw (P := P) (w := w) (base := base) T
  obtain ⟨_, D⟩ := T.d_law_draw
  have hnd := sc_law_size.nd
  refine fnr T.d_law_size sc_law_size (fun _ _ _ _ _ _ us hl => match us, hl with | [_, _], _ => rfl) (fun vs H Q E h => by obtain ⟨p, c, t, rfl, _⟩ := h; rfl) fun cdv A outer s H vs Q E hr h => ?_
  obtain ⟨p, c, t, rfl, N, ht, k⟩ := h
  refine ⟨_, pss_cons (ps_asg (pe_ix ix_list (pe_lst (pa_cons (pe_fn G hr (by rfl) T.g_law_draw D.kp pass0 (pa_cons (pv 0) (pa_cons pe_int pa_nil))) (pa_cons (pe_op op_add pe_int (pe_fn G hr (by rfl) T.g_law_draw D.kp pass0 (pa_cons (pv 0) (pa_cons pe_int pa_nil)))) (pa_cons (pe_fn G hr (by rfl) T.g_law_draw D.kp pass0 (pa_cons (pv 0) (pa_cons pe_int pa_nil))) pa_nil))))
      (pe_fn G hr (by rfl) T.g_law_draw D.kp pass0 (pa_cons (pv 0) (pa_cons pe_int pa_nil))) fun _ _ => rfl) (pg_name (i := 2) hnd rfl (Or.inl rfl)))
    (pss_one (ps_ret (pe_tup (pa_cons (pv 2) (pa_cons (pe_op op_add pe_int (pe_fn G hr (by rfl) T.g_law_draw D.kp pass0 (pa_cons (pv 0) (pa_cons (pe_callB (call_min2 rfl) (by rfl) T.f_min bi_min (pa_cons pe_int (pa_cons (pe_op op_fdiv (pv 1) (pe_callB (call_max2 rfl) (by rfl) T.f_max bi_max (pa_cons pe_int (pa_cons (pv 2) pa_nil)))) pa_nil))) pa_nil)))) pa_nil))))), ?_⟩
  refine x_asg (x_op (x_lst (x_cons (x_draw (ev_var rfl) ev_c N (by omega) (by decide) (by decide) fun r1 H1 b1 N1 h1 => ?_))))
  refine x_cons (x_op (x_ev (v := .int 1) ev_c fun H1' e1 => x_draw (ev_var rfl) ev_c (N1.ex e1) (by omega) (by decide) (by decide) fun r2 H2 b2 N2 h2 => ⟨1, (r2 : Int), rfl, rfl, ?_⟩))
  refine x_cons (x_draw (ev_var rfl) ev_c N2 (by omega) (by decide) (by decide) fun r3 H3 b3 N3 h3 => x_nil ⟨sz_of (by show 3 ≤ 100000; decide), fun l hl => ?_⟩)
  have e3 : Ex H3 (upd H3 l (.lst [.int r1, .int (1 + (r2 : Int)), .int r3])) := Ex.new hl
  refine x_draw (ev_var rfl) ev_c (N3.ex e3) (by omega) (by decide) (by decide) fun r4 H4 b4 N4 h4 => ?_
  have hlp : l ≠ p := (N3.new hl).1
  have hl4 := b4 l _ hlp upd_same
  obtain ⟨m, hm, hm12⟩ : ∃ m : Nat, atI [V.int (r1 : Int), .int (1 + (r2 : Int)), .int (r3 : Int)] (r4 : Int) = some (.int m) ∧ m ≤ 12 := by
    have h4' : r4 < 3 := by omega
    match r4, h4' with
    | 0, _ => exact ⟨r1, rfl, by omega⟩
    | 1, _ => exact ⟨1 + r2, by rw [Int.natCast_add]; rfl, by omega⟩
    | 2, _ => exact ⟨r3, rfl, by omega⟩
  refine ⟨l, _, _, _, rfl, rfl, sq_of hl4, hm, ?_⟩
  change tRet _ _ [some (.ref p), some (.int 40), some (.int m)] H4
  have b04 : ExB p H H4 := ((b1.trans ((ExB.ex e1).trans b2)).trans b3).trans ((ExB.ex e3).trans b4)
  refine x_ret (x_tup (x_cons (x_ev (ev_var (v := .int (m : Int)) rfl) fun H5 e5 => ?_)))
  have mx : (1 : Int) ≤ (if (m : Int) > 1 then (m : Int) else 1) ∧ (m : Int) ≤ (if (m : Int) > 1 then (m : Int) else 1) ∧ (if (m : Int) > 1 then (m : Int) else 1) ≤ 12 := by split <;> omega
  obtain ⟨M, hM⟩ : ∃ M : Int, M = (if (m : Int) > 1 then (m : Int) else 1) := ⟨_, rfl⟩
  rw [← hM] at mx
  have d1 : 1 ≤ 40 / M := (Int.le_ediv_iff_mul_le (by omega)).mpr (by omega)
  have d2 : 40 / M ≤ 40 := Int.ediv_le_self _ (by decide)
  have d3 : 40 / M * M ≤ 40 := Int.ediv_mul_le _ (by omega)
  refine x_cons (x_op (x_ev (v := .int 1) ev_c fun H6 e6 => x_draw (size := 40 / M) (ev_var rfl) (ev_is (ev_min2 (i := 60) ev_c (ev_op (x := .int 40) (ev_var rfl) (ev_max2 (i := 1) ev_c (ev_var (v := .int (m : Int)) rfl)) (rv_I ⟨?_, ?_⟩))) ?_) (N4.ex (e5.trans e6)) (by omega) d1 (by omega) fun r5 H7 b7 N7 h5 => ⟨1, (r5 : Int), rfl, rfl, x_nil ⟨sz_of (by show 2 ≤ 100000; decide), fun q hq => ?_⟩⟩))
  · rw [← hM]; omega
  · rw [← hM]; omega
  · rw [← hM]
    congr 1
    split <;> omega
  · have en : (1 : Int) + (r5 : Int) = ((1 + r5 : Nat) : Int) := by rw [Int.natCast_add]; rfl
    dsimp only
    rw [en]
    have h1r : ((1 + r5 : Nat) : Int) ≤ 40 / M := by omega
    refine k q m (1 + r5) _ ((b04.trans (ExB.ex (e5.trans e6))).trans (b7.trans (ExB.ex (Ex.new hq)))) (N7.ex (Ex.new hq)) upd_same hm12 (by omega) (by omega) ?_
    have h2 : (m : Int) * ((1 + r5 : Nat) : Int) ≤ M * (40 / M) := Int.mul_le_mul mx.2.1 h1r (by omega) (by omega)
    rw [Int.mul_comm M] at h2
    have h3 : ((m * (1 + r5) : Nat) : Int) ≤ 40 := by
      rw [Int.natCast_mul]
      omega
    omega
end
end K29
set_option Elab.async false
set_option linter.all false
set_option maxRecDepth 100000
set_option maxHeartbeats 4000000
/-! _law_names. -/
namespace K29
open PySem PySem.Spec PyProof.Rows L2 Evl
theorem map_erase {α β : Type} (f : α → β) : ∀ (l : List α) (k : Nat), (l.map f).eraseIdx k = (l.eraseIdx k).map f
  | [], _ => rfl
  | _ :: _, 0 => rfl
  | a :: l, k + 1 => by
    show f a :: (l.map f).eraseIdx k = f a :: (l.eraseIdx k).map f
    rw [map_erase f l k]
theorem erase_perm {α : Type} : ∀ {l : List α} {k : Nat} {y : α}, l[k]? = some y → l.Perm (y :: l.eraseIdx k)
  | [], _, _, h => by cases h
  | a :: l, 0, y, h => by cases h; exact List.Perm.refl _
  | a :: l, k + 1, y, h => ((erase_perm (l := l) (k := k) h).cons a).trans (List.Perm.swap y a _)
theorem erase_len {α : Type} {l : List α} {k : Nat} (h : k < l.length) : (l.eraseIdx k).length + 1 = l.length := by
  have := (erase_perm (List.getElem?_eq_getElem h)).length_eq
  rw [List.length_cons] at this
  omega
theorem ExB.mut {p a : Addr} {H H' : Hp} {o : HO} (b : ExB p H H') (h : H a = none) : ExB p H (L2.upd H' a o) := fun x u hx hu => by
  rw [upd_ne fun z => by rw [z, h] at hu; cases hu]
  exact b x u hx hu
theorem ExB.back {p c a : Addr} {t : Nat} {H H' : Hp} (b : ExB p H H') (N : Pen H' p c t) (h : H' a = none) : H a = none := by
  cases e : H a with
  | none => rfl
  | some o =>
    have := b a o (N.new h).1 e
    rw [h] at this
    cases this
section
variable {K : PySem.W.Frag} {σ : L2.St} {H H' : Hp} {te tl tp ta tb : TE} {Q : VK}
theorem el_cat {L : Addr} {xs ys : List V} (ha : Ev ta σ H (.ref L)) (hL : H L = some (.lst xs)) (hb : EvL tb σ H ys) (hz : xs.length + ys.length ≤ 100000) : EvL (tOp rCat ta tb) σ H (xs ++ ys) := fun H1 e Q q =>
  ha H1 e _ fun H2 e2 => hb H2 (e.trans e2) _ fun p H3 hp e3 h3 => ⟨L, p, xs, ys, rfl, rfl, ((e.trans e2).trans e3) _ _ hL, h3, sz_of hz, fun l hl => q l _ (fresh_back (e2.trans e3) hl) ((e2.trans e3).trans (Ex.new hl)) upd_same⟩
/-- l.pop(_law_draw(pen, len(l))) -/
theorem rv_mulS {z : Str} {i : Int} (h : z.length ≤ 16) (h0 : 0 ≤ i) (h1 : i ≤ 1000) : RV rMulS (.str z) (.int i) H (.str (PySem.Txt.mul z i)) := fun H1 _ _ q => ⟨z, i, rfl, rfl, h, h0, h1, q H1 (Ex.refl H1)⟩
theorem x_ifT {D : Ends} {tz tu : TS} (h : te σ H fun v H1 => ∃ b, v = .bl b ∧ if b = true then tu { D with nx := tz D } σ H1 else tz D σ H1) : tSeq (tIfS (tTest te) tu tNext) tz D σ H := h
theorem x_ifL {D : Ends} {tz : TS} {b : Bool} {i : Nat} {L : Addr} {xs0 xs1 : List V} (h1 : b = true → EvL te σ H xs1) (h0 : σ.set i (some (.ref L)) = σ) (hL : H L = some (.lst xs0))
    (k : ∀ L' H', Ex H H' → (H L' = none ∨ L' = L) → H' L' = some (.lst (if b = true then xs1 else xs0)) → tz D (σ.set i (some (.ref L'))) H') : if b = true then tAsg te (gName i) { D with nx := tz D } σ H else tz D σ H := by
  cases b with
  | false =>
    rw [if_neg (by decide)]
    have := k L H (Ex.refl H) (.inr rfl) hL
    rw [h0] at this
    exact this
  | true =>
    rw [if_pos rfl]
    exact h1 rfl H (Ex.refl H) _ fun p H2 hp e2 h2 => k p H2 e2 (.inl hp) h2
theorem x_pop {p c L : Addr} {t : Nat} {xs : List V} (hl : Ev tl σ H (.ref L)) (hp : Ev tp σ H (.ref p)) (hL : H L = some (.lst xs)) (ne : L ≠ p) (h0 : 0 < xs.length) (h9 : xs.length ≤ 1000) (Pn : Pen H p c t) (ht : t < 10000)
    (k : ∀ (j : Nat) y H2, xs[j]? = some y → ExB p H H2 → Pen H2 p c (t + 1) → H2 L = some (.lst xs) → Q y (upd H2 L (.lst (xs.eraseIdx j)))) :
    tBM K "list" rPopAt tl (tCons (tFn spDraw E0 (tCons tp (tCons (tCB (fun vs H Q => ∃ p ys, vs = [.ref p] ∧ (SqL K H p ys ∨ SqT K H p ys) ∧ Q (.int ys.length) H) (tCons tl tNil)) tNil))) tNil) σ H Q := by
  refine hl H (Ex.refl H) _ fun H1 e1 => ⟨.inl ⟨rfl, _, sq_of (e1 _ _ hL)⟩, ?_⟩
  refine x_cons (x_draw (p := p) (hp.mono e1) (ev_lenS (hl.mono e1) (sq_of (e1 _ _ hL))) (Pn.ex e1) ht (by omega) (by omega) fun r H2 b2 N2 hr => x_nil ?_)
  have hr' : r < xs.length := by omega
  have h2 : H2 L = some (.lst xs) := b2 _ _ ne (e1 _ _ hL)
  refine ⟨L, xs, _, r, _, rfl, rfl, h2, by omega, by omega, ?_, List.getElem?_eq_getElem hr', k r _ H2 (List.getElem?_eq_getElem hr') ((ExB.ex e1).trans b2) N2 h2⟩
  unfold seqIndex?
  have h3 : ¬ (r : Int) < 0 := by omega
  simp [h3, hr']
end
/-! ### the 60 words -/
def nmw (i : Nat) : Str := PySem.Txt.mul ⟨#[letters.cps.toList[i % 26]?.getD 0]⟩ (1 + (i : Int) / 26)
def words : List Str := (List.range 52).map nmw ++ (["if", "self", "move", "load", "rows", "abcdefgh", "abcdefgi", "zzzzzzzz"] : List Str)
def isNm (z : Str) : Bool := decide (1 ≤ z.length) && decide (z.length ≤ 8) && z.cps.toList.all fun c => decide (97 ≤ c) && decide (c ≤ 122)
theorem isNm_ok {z : Str} (h : isNm z = true) : IsName z := by
  unfold isNm at h
  obtain ⟨h1, h2⟩ := Bool.and_eq_true_iff.mp h
  obtain ⟨h3, h4⟩ := Bool.and_eq_true_iff.mp h1
  refine ⟨of_decide_eq_true h3, of_decide_eq_true h4, fun c hc => ?_⟩
  obtain ⟨h5, h6⟩ := Bool.and_eq_true_iff.mp (List.all_eq_true.mp h2 c hc)
  exact ⟨of_decide_eq_true h5, of_decide_eq_true h6⟩
theorem words_nm : ∀ z ∈ words, IsName z := fun z hz => isNm_ok (List.all_eq_true.mp (by decide +kernel : words.all isNm = true) z hz)
theorem words_nd : words.Nodup := by decide +kernel
theorem words_zq : ("zq" : Str) ∉ words := by decide +kernel
theorem words_len : words.length = 60 := by decide +kernel
section
variable {P : Program} {w : World} {K : PySem.W.Frag} {mg : Str → Option Value} {base : Heap}
abbrev nsW : List Str := ["_law_pen_here", "_law_many", "_law_letters", "_law_left", "_law_k"]
theorem sc_law_names : FnScope nsW ["_law_pen_here", "_law_many"] (defScope s_law_names) := ⟨rfl, rfl, rfl, by decide +kernel, rfl, by decide +kernel, by decide +kernel⟩
def spNames : Sp := fun vs H Q _ => ∃ (p c : Addr) (t many : Nat), vs = [.ref p, .int many] ∧ Pen H p c t ∧ t + 14 < 10000 ∧ many ≤ 12 ∧
  ∀ (l : Addr) (ns : List Str) H2, ExB p H H2 → Pen H2 p c (t + 13) → H2 l = some (.lst (ns.map V.str)) → H l = none → ns.Nodup → ns.length = many → (∀ z ∈ ns, z ∈ words) → Q (.ref l) H2
theorem ok_law_names (T : Tx K mg) : FnR P w K mg base CX0 2 (He.ga K "_law_names") spNames := by
  have G := ok_law_draw (P := P) (w := w) (base := base) T
  obtain ⟨_, D⟩ := T.d_law_draw
  have hnd := sc_law_names.nd
  refine fnr T.d_law_names sc_law_names (fun _ _ _ _ _ _ us hl => match us, hl with | [_, _], _ => rfl) (fun vs H Q E h => by obtain ⟨p, c, t, many, rfl, _⟩ := h; rfl) fun cdv A outer s H vs Q E hr h => ?_
  obtain ⟨p, c, t, many, rfl, N, ht, hm, k⟩ := h
  refine ⟨_, pss_cons (ps_asg pe_str (pg_name (i := 2) hnd rfl (Or.inr rfl)))
    (pss_cons (ps_asg (pe_lc (own := [("_law_k", 4)]) (g := gName 4) rfl hnd (pi_range1 (by rfl) T.f_range (pa_cons pe_int pa_nil)) (blkOk_by (own := [("_law_k", 4)]) (N := nsW) (sc := defScope s_law_names) (by decide +kernel))
      (fun _ _ _ _ _ => pg_name (i := 4) hnd rfl (Or.inl rfl)) (fun _ _ _ _ _ => pts_nil) (fun _ _ _ _ _ => pe_op op_mulS (pe_ix ix_str (pv 2) (pe_op op_mod (pv 4) pe_int) fun _ _ => rfl) (pe_op op_add pe_int (pe_op op_fdiv (pv 4) pe_int)))) (pg_name (i := 3) hnd rfl (Or.inr rfl)))
    (pss_cons (ps_asg (pe_op op_cat (pv 3) (pe_lst (pa_cons pe_str (pa_cons pe_str (pa_cons pe_str (pa_cons pe_str (pa_cons pe_str (pa_cons pe_str (pa_cons pe_str (pa_cons pe_str pa_nil)))))))))) (pg_name (i := 3) hnd rfl (Or.inr rfl)))
    (pss_cons (ps_if (pt_cmpR op_gt (pe_fn G hr (by rfl) T.g_law_draw D.kp pass0 (pa_cons (pv 0) (pa_cons pe_int pa_nil))) pe_int (nomark _)) (pss_one (ps_asg (pe_slice sl_list (pv 3) po_none (po_some (pv 1))) (pg_name (i := 3) hnd rfl (Or.inr rfl)))) pss_nil)
    (pss_one (ps_ret (pe_lc (own := [("_law_k", 4)]) (g := gName 4) (te := tBM K "list" rPopAt (tVar 3) (tCons (tFn spDraw E0 (tCons (tVar 0) (tCons (tCB (fun vs H Q => ∃ p ys, vs = [.ref p] ∧ (SqL K H p ys ∨ SqT K H p ys) ∧ Q (.int ys.length) H) (tCons (tVar 3) tNil)) tNil))) tNil)) rfl hnd (pi_range1 (by rfl) T.f_range (pa_cons (pv 1) pa_nil)) (blkOk_by (own := [("_law_k", 4)]) (N := nsW) (sc := defScope s_law_names) (by decide +kernel))
      (fun _ _ _ _ _ => pg_name (i := 4) hnd rfl (Or.inl rfl)) (fun _ _ _ _ _ => pts_nil) (fun _ _ _ _ _ => pe_bm PySem.F.plainAttrs_list PySem.F.slot_list_pop PySem.F.type_list_pop mt_popAt (pv 3) (pa_cons (pe_fn G hr (by rfl) T.g_law_draw D.kp pass0 (pa_cons (pv 0) (pa_cons (pe_callB call_len_seq (by rfl) T.f_len PySem.boot_len (pa_cons (pv 3) pa_nil)) pa_nil))) pa_nil)))))))), ?_⟩
  let σ1 : L2.St := [some (.ref p), some (.int (many : Int)), some (.str letters), none, none]
  have hlet : letters.cps.toList.length = 26 := by decide +kernel
  have hat : ∀ i : Nat, atI letters.cps.toList ((i % 26 : Nat) : Int) = some (letters.cps.toList[i % 26]?.getD 0) := fun i => by
    have hlt : i % 26 < letters.cps.toList.length := by rw [hlet]; exact Nat.mod_lt _ (by decide)
    have h1 : ixN letters.cps.toList.length ((i % 26 : Nat) : Int) = some (i % 26) := by
      unfold ixN
      rw [if_pos (Int.natCast_nonneg _), if_pos (Int.ofNat_lt.mpr hlt)]
      rfl
    unfold atI
    rw [h1, List.getElem?_eq_getElem hlt]
    simp [hlt]
  have ell := el_lcR1 (σ := σ1) (H := H) (ta := tCons (tC (.int 52)) tNil) (j := 4) (vs := [4]) (t := tYes) (te := tOp rMulS (tOp rIxS (tVar 2) (tOp (rI (fun _ j => 0 < j) fun i j => .int (i % j)) (tVar 4) (tC (.int 26)))) (tOp (rI0 fun i j => .int (i + j)) (tC (.int 1)) (tOp (rI CDiv fun i j => .int (i / j)) (tVar 4) (tC (.int 26))))) (n := 52) (fun _ => true) (fun i => .str (nmw i)) (ea_cons ev_c ea_nil) (by decide) (fun x => rfl)
    (fun i H1 e hi => fun H2 e2 Q k => k H2 (Ex.refl H2)) fun i H1 e hi _ => ev_op (x := .str ⟨#[letters.cps.toList[i % 26]?.getD 0]⟩) (y := .int (1 + (i : Int) / 26)) (ev_op (x := .str letters) (y := .int ((i % 26 : Nat) : Int)) (ev_var rfl) (ev_is (ev_op (ev_var (v := .int (i : Int)) rfl) (y := .int 26) ev_c (rv_I (by decide))) (by rw [Int.natCast_emod]; rfl)) (rv_ixS (by show letters.length ≤ 100000; decide +kernel) (hat i))) (ev_op (x := .int 1) ev_c (ev_op (ev_var (v := .int (i : Int)) rfl) (y := .int 26) ev_c (rv_I ⟨by decide, by decide⟩)) rv_I0) (rv_mulS (by show 1 ≤ 16; decide) (by omega) (by omega))
  refine q_asg ev_c fun H1 e1 => ?_
  change tSeq _ _ _ σ1 H1
  refine q_asgL (ell.mono e1) fun l1 H2 hl1 e2 h2 => ?_
  have eg : given (52 : Int).toNat (fun _ => true) (fun i => V.str (nmw i)) = ((List.range 52).map nmw).map V.str := by
    unfold given
    rw [List.filter_eq_self.mpr (fun _ _ => rfl), List.map_map]
    rfl
  rw [eg] at h2
  let tail : List Str := ["if", "self", "move", "load", "rows", "abcdefgh", "abcdefgi", "zzzzzzzz"]
  have etl : EvL (tLst (tCons (tC (.str "if")) (tCons (tC (.str "self")) (tCons (tC (.str "move")) (tCons (tC (.str "load")) (tCons (tC (.str "rows")) (tCons (tC (.str "abcdefgh")) (tCons (tC (.str "abcdefgi")) (tCons (tC (.str "zzzzzzzz")) tNil))))))))) (σ1.set 3 (some (.ref l1))) H2 (tail.map V.str) :=
    el_lst (ea_cons ev_c (ea_cons ev_c (ea_cons ev_c (ea_cons ev_c (ea_cons ev_c (ea_cons ev_c (ea_cons ev_c (ea_cons ev_c ea_nil)))))))) (by show 8 ≤ 100000; decide)
  refine q_asgL (el_cat (ev_var rfl) h2 etl (by rw [List.length_map, List.length_map, List.length_range]; show 52 + 8 ≤ 100000; decide)) fun l2 H3 hl2 e3 h3 => ?_
  rw [← List.map_append] at h3
  change H3 l2 = some (.lst (words.map V.str)) at h3
  have e03 := (e1.trans e2).trans e3
  have N3 := N.ex e03
  change tSeq _ _ _ [some (.ref p), some (.int (many : Int)), some (.str letters), some (.ref l2), none] H3
  have f2 : H l2 = none := fresh_back (e1.trans e2) hl2
  refine x_ifT (x_op (x_draw (ev_var rfl) ev_c N3 (by omega) (by decide) (by decide) fun r H4 b4 N4 hr => x_ev (v := .int 0) ev_c fun H5 e5 => ⟨_, _, rfl, rfl, _, rfl, ?_⟩))
  have b05 : ExB p H H5 := (ExB.ex e03).trans (b4.trans (ExB.ex e5))
  have N5 := N4.ex e5
  have ne2 := N.new f2
  have h5 : H5 l2 = some (.lst (words.map V.str)) := e5 _ _ (b4 _ _ ne2.1 h3)
  have ex1 : cutV (words.map V.str) none (some (many : Int)) = (words.take many).map V.str := by
    rw [cut_take (words.map V.str) (by rw [List.length_map, words_len]; omega), List.map_take]
  refine x_ifL (L := l2) (xs0 := words.map V.str) (xs1 := (words.take many).map V.str) (fun _ => ex1 ▸ el_sl (ev_var rfl) eo_none (eo_some (ev_var rfl)) (sq_of h5)) rfl h5 fun L H6 e6 hL h6 => ?_
  change tRet _ _ [some (.ref p), some (.int (many : Int)), some (.str letters), some (.ref L), none] H6
  obtain ⟨left0, h6', q1, q2, q3, q4⟩ : ∃ left0 : List Str, H6 L = some (.lst (left0.map V.str)) ∧ left0.Nodup ∧ (∀ z ∈ left0, z ∈ words) ∧ many ≤ left0.length ∧ left0.length ≤ 60 := by
    split at h6
    · refine ⟨_, h6, List.Nodup.sublist (List.take_sublist _ _) words_nd, fun z hz => List.mem_of_mem_take hz, ?_, ?_⟩
      · rw [List.length_take, words_len]; omega
      · rw [List.length_take, words_len]; omega
    · exact ⟨_, h6, words_nd, fun z hz => hz, by rw [words_len]; omega, by rw [words_len]; omega⟩
  have fL : H L = none := by
    rcases hL with h | rfl
    · exact b05.back N5 h
    · exact f2
  have neL := N.new fL
  have N6 := N5.ex e6
  have b06 := b05.trans (ExB.ex e6)
  refine x_ret ?_
  refine ⟨.int (many : Int), rfl, (many : Int), rfl, by omega, by omega, fun Dl hD => ?_⟩
  have fD : H Dl = none := b06.back N6 hD
  have neD := N.new fD
  have DL : Dl ≠ L := fun z => by rw [z, h6'] at hD; cases hD
  have en : (many : Int).toNat = many := Int.toNat_natCast many
  rw [en]
  refine lc_it walk_range (fun i H' => ∃ left out : List Str, ExB p H H' ∧ Pen H' p c (t + 1 + i) ∧ H' L = some (.lst (left.map V.str)) ∧ H' Dl = some (.lst (out.map V.str)) ∧ out.length = i ∧ (out ++ left).Nodup ∧ (∀ z ∈ out ++ left, z ∈ words) ∧ many ≤ i + left.length ∧ left.length ≤ 60)
    ⟨left0, [], b06.mut fD, (N6.le (by omega)).mut neD.1 neD.2, by rw [upd_ne (Ne.symm DL)]; exact h6', upd_same, rfl, q1, q2, by omega, q4⟩ (fun _ _ _ _ => trivial) (fun i x H' H'' hi pv y => ?_) fun H' pv => ?_
  · obtain ⟨rfl, rfl⟩ := y
    obtain ⟨left, out, g1, g2, g3, g4, g5, g6, g7, g8, g9⟩ := pv
    refine ⟨rfl, ?_⟩
    unfold tYes; dsimp only
    rw [if_pos rfl]
    refine x_pop (L := L) (ev_var rfl) (ev_var rfl) g3 neL.1 (by rw [List.length_map]; omega) (by rw [List.length_map]; omega) g2 (by omega) fun j yv H7 hj b7 N7 h7 => ?_
    obtain ⟨z, hz, rfl⟩ := map_str_at hj
    have hjl : j < left.length := (List.getElem?_eq_some_iff.mp hz).1
    have pm : (out ++ left).Perm ((out ++ [z]) ++ left.eraseIdx j) := by
      rw [List.append_assoc]
      exact (erase_perm hz).append_left out
    refine ⟨out.map V.str, ?_, sz_lt (by rw [List.length_map]; omega), left.eraseIdx j, out ++ [z], ((g1.trans b7).mut fL).mut fD, ((N7.mut neL.1 neL.2).mut neD.1 neD.2).le (by omega), ?_, ?_, ?_, ?_, fun y hy => g7 y (pm.mem_iff.mpr hy), ?_, ?_⟩
    · rw [upd_ne DL]
      exact b7 _ _ neD.1 g4
    · rw [upd_ne (Ne.symm DL), upd_same, map_erase]
    · rw [upd_same, List.map_append]
      rfl
    · rw [List.length_append, g5]
      rfl
    · exact pm.nodup_iff.mp g6
    · have := erase_len hjl
      omega
    · have := erase_len hjl
      omega
  · obtain ⟨left, out, g1, g2, g3, g4, g5, g6, g7, g8, g9⟩ := pv
    exact k Dl out H' g1 (g2.le (by omega)) g4 fD (List.nodup_append.mp g6).1 g5 fun z hz => g7 z (List.mem_append_left _ hz)
end
end K29
set_option Elab.async false
set_option linter.all false
set_option maxRecDepth 100000
set_option maxHeartbeats 4000000
/-! _law_needs. -/
namespace K29
open PySem PySem.Spec PyProof.Rows L2 Evl
section
variable {K : PySem.W.Frag} {σ : L2.St} {H H' : Hp} {te tl tp ta tb tsz : TE} {Q : VK} {D : Ends} {tz : TS}
theorem x_ifR {t : TT} {b : Bool} {i : Nat} {R : V → Hp → Prop} (h : EvT t σ H b) (h1 : b = true → EvP te σ H R) (h0 : b = false → ∃ v, R v H ∧ σ.set i (some v) = σ) (hR : ∀ v H1 H2, Ex H1 H2 → R v H1 → R v H2) (k : ∀ v H1, Ex H H1 → R v H1 → tz D (σ.set i (some v)) H1) : tSeq (tIfS t (tAsg te (gName i)) tNext) tz D σ H :=
  q_when h (fun hb H1 e1 => h1 hb H1 e1 _ fun v H2 e2 r => k v H2 (e1.trans e2) r) fun hb H1 e1 => by
    obtain ⟨v, r, hv⟩ := h0 hb
    have := k v H1 e1 (hR _ _ _ e1 r)
    rw [hv] at this
    exact this
theorem x_asg1 {i : Nat} (h : te σ H fun x H1 => D.nx (σ.set i (some x)) H1) : tAsg te (gName i) D σ H := h
theorem x_ifX {t : TT} {b : Bool} {i : Nat} {R : V → Hp → Prop} (h : EvT t σ H b) (h1 : b = true → ∀ H1, Ex H H1 → ∀ Q : VK, (∀ v H2, R v H2 → Q v H2) → te σ H1 Q) (h0 : b = false → ∃ v, (∀ H1, Ex H H1 → R v H1) ∧ σ.set i (some v) = σ) (k : ∀ v H2, R v H2 → tz D (σ.set i (some v)) H2) : tSeq (tIfS t (tAsg te (gName i)) tNext) tz D σ H :=
  q_when h (fun hb H1 e1 => h1 hb H1 e1 _ fun v H2 r => k v H2 r) fun hb H1 e1 => by
    obtain ⟨v, r, hv⟩ := h0 hb
    have := k v H1 (r H1 e1)
    rw [hv] at this
    exact this
theorem evp_L {xs : List V} {R : V → Hp → Prop} (h : EvL te σ H xs) (hR : ∀ p H1, H1 p = some (.lst xs) → R (.ref p) H1) : EvP te σ H R := fun H1 e Q q => h H1 e _ fun p H2 _ e2 h2 => q _ H2 e2 (hR p H2 h2)
theorem cut_all (xs : List V) (n : Nat) (h : xs.length ≤ n) : cutV xs none (some (n : Int)) = xs := by
  unfold cutV
  rw [HT.sIx_none, HT.sIx_nat, Nat.min_eq_right h, List.drop_zero, Nat.sub_zero, List.take_of_length_le (Nat.le_refl _)]
theorem evp_sorted25 {l : Addr} {ms : List Str} (h : Ev te σ H (.ref l)) (hl : H l = some (.lst (ms.map V.str))) (h12 : ms.length ≤ 12) :
    EvP (tCB (fun xs H Q => ∃ p ys, xs = [.ref p] ∧ ((SqL K H p ys ∧ ∀ l, H l = none → Q (.ref l) (upd H l (.tup ys))) ∨ (SqT K H p ys ∧ Q (.ref p) H))) (tCons (tSl (rSlL K) (tCB (rSortedS K) (tCons te tNil)) tNoPart (tPart (tC (.int 25)))) tNil)) σ H
      (fun v H2 => ∃ (q : Addr) (ys : List Str), v = .ref q ∧ H2 q = some (.tup (ys.map V.str)) ∧ ys.Perm ms) := fun H1 e Q q =>
  h H1 e _ fun H2 e2 => ⟨l, ms, rfl, sq_of ((e.trans e2) _ _ hl), by omega, fun ys p hp _ hn => by
    refine eo_none (H := upd H2 p (.lst (ys.map V.str))) (σ := σ) _ (Ex.refl _) _ fun H3 e3 => eo_some (te := tC (.int 25)) (i := 25) (H := H3) (σ := σ) ev_c H3 (Ex.refl _) _ fun H4 e4 => ?_
    have hp4 : H4 p = some (.lst (ys.map V.str)) := (e3.trans e4) _ _ upd_same
    refine ⟨p, _, rfl, sq_of hp4, fun r hr => ?_⟩
    have ec : cutV (ys.map V.str) none (some 25) = ys.map V.str := cut_all _ 25 (by rw [List.length_map, hp.length_eq]; omega)
    rw [ec]
    refine ⟨r, _, rfl, .inl ⟨sq_of upd_same, fun l2 hl2 => q _ _ ?_ ⟨l2, ys, rfl, upd_same, hp⟩⟩⟩
    exact e2.trans ((Ex.new hn).trans ((e3.trans e4).trans ((Ex.new hr).trans (Ex.new hl2))))⟩
/-- [mate for mate in xs if _law_draw(pen, size) == 0] -/
theorem x_pick {p c : Addr} {t : Nat} {size : Int} {xs : List Str} {j : Nat} {vs : List Nat} (hx : EvL tl σ H (xs.map V.str)) (Pn : Pen H p c t) (ht : t + xs.length < 10000) (s1 : 1 ≤ size) (s2 : size ≤ 1000) (hz : xs.length ≤ 12)
    (hw : ∀ x, wipe ((wipe σ vs).set j (some x)) vs = wipe σ vs) (hp : ∀ x H1, Ev tp ((wipe σ vs).set j (some x)) H1 (.ref p)) (hs : ∀ x H1, Ev tsz ((wipe σ vs).set j (some x)) H1 (.int size)) (hj : ∀ x, ((wipe σ vs).set j (some x))[j]? = some (some x))
    (k : ∀ l (ms : List Str) H2, ExB p H H2 → Pen H2 p c (t + xs.length) → H2 l = some (.lst (ms.map V.str)) → H l = none → ms.Sublist xs → Q (.ref l) H2) :
    tLc (iList K tl) (gName j) (tTest (tOp rEq (tFn spDraw E0 (tCons tp (tCons tsz tNil))) (tC (.int 0)))) (tVar j) vs σ H Q :=
  hx H (Ex.refl H) _ fun a H1 ha e1 h1 => ⟨a, rfl, ⟨_, sq_of h1⟩, fun Dl hD => by
    have N1 := Pn.ex e1
    have na := Pn.new ha
    have fD : H Dl = none := fresh_back e1 hD
    have nD := Pn.new fD
    have aD : a ≠ Dl := fun z => by rw [z, hD] at h1; cases h1
    have wk := walk_list (K := K) (a := a) (xs := xs.map V.str)
    rw [List.length_map] at wk
    refine lc_it wk (fun i H' => ∃ ms : List Str, ExB p H H' ∧ Pen H' p c (t + i) ∧ H' a = some (.lst (xs.map V.str)) ∧ H' Dl = some (.lst (ms.map V.str)) ∧ ms.Sublist (xs.take i))
      ⟨[], (ExB.ex e1).mut fD, N1.mut nD.1 nD.2, by rw [upd_ne aD]; exact h1, upd_same, List.nil_sublist _⟩ (fun i H' _ pv => ?_) (fun i x H' H'' hi pv y => ?_) fun H' pv => ?_
    · obtain ⟨_, _, _, h, _⟩ := pv
      exact sq_of h
    · obtain ⟨rfl, hx'⟩ := y
      obtain ⟨z, hz', rfl⟩ := map_str_at hx'
      obtain ⟨ms, g1, g2, g3, g4, g5⟩ := pv
      refine ⟨hw _, ?_⟩
      have et : xs.take (i + 1) = xs.take i ++ [z] := by rw [List.take_succ, hz']; rfl
      refine x_draw (hp _ _) (hs _ _) g2 (by omega) s1 s2 fun r H2 b2 N2 hr => x_ev (v := .int 0) ev_c fun H3 e3 => ⟨rfl, _, rfl, ?_⟩
      have b03 := g1.trans (b2.trans (ExB.ex e3))
      have N3 := N2.ex e3
      have hD3 : H3 Dl = some (.lst (ms.map V.str)) := e3 _ _ (b2 _ _ nD.1 g4)
      have ha3 : H3 a = some (.lst (xs.map V.str)) := e3 _ _ (b2 _ _ na.1 g3)
      refine ite2 (fun _ => ?_) fun _ => ?_
      · refine ⟨_, hj _, ms.map V.str, hD3, sz_lt (by have := g5.length_le; rw [List.length_take] at this; rw [List.length_map]; omega), ms ++ [z], b03.mut fD, N3.mut nD.1 nD.2, by rw [upd_ne aD]; exact ha3, ?_, ?_⟩
        · rw [upd_same, List.map_append]
          rfl
        · rw [et]
          exact g5.append (List.Sublist.refl _)
      · exact ⟨ms, b03, N3, ha3, hD3, by rw [et]; exact g5.trans (List.sublist_append_left _ _)⟩
    · obtain ⟨ms, g1, g2, g3, g4, g5⟩ := pv
      rw [List.take_length] at g5
      exact k Dl ms H' g1 g2 g4 fD g5⟩
end
section
variable {P : Program} {w : World} {K : PySem.W.Frag} {mg : Str → Option Value} {base : Heap}
abbrev nsN2 : List Str := ["_law_pen_here", "_law_ladder", "_law_left", "_law_order", "_law_way", "_law_found", "_law_k", "_law_title", "_law_some", "_law_mate"]
theorem sc_law_needs : FnScope nsN2 ["_law_pen_here", "_law_ladder"] (defScope s_law_needs) := ⟨rfl, rfl, rfl, by decide +kernel, rfl, by decide +kernel, by decide +kernel⟩
def spWants : Sp := fun vs H Q _ => ∃ (p c lad : Addr) (t : Nat) (rows : List Str), vs = [.ref p, .ref lad] ∧ Pen H p c t ∧ t + 400 < 10000 ∧ H lad = some (.lst (rows.map V.str)) ∧ lad ≠ p ∧ rows.Nodup ∧ rows.length ≤ 12 ∧ (∀ r ∈ rows, IsName r) ∧
  ∀ (d : Addr) (ks : List Str) (nd : Str → List Str) (ad : Str → Addr) H2, ExB p H H2 → Pen H2 p c (t + 400) → NdAt H2 d ks nd ad → ks.Perm rows → Sht rows nd → H d = none → Q (.ref d) H2
theorem ok_law_needs (T : Tx K mg) : FnR P w K mg base CX0 2 (He.ga K "_law_needs") spWants := by
  have G := ok_law_draw (P := P) (w := w) (base := base) T
  obtain ⟨_, D⟩ := T.d_law_draw
  have hnd := sc_law_needs.nd
  refine fnr T.d_law_needs sc_law_needs (fun _ _ _ _ _ _ us hl => match us, hl with | [_, _], _ => rfl) (fun vs H Q E h => by obtain ⟨p, c, lad, t, rows, rfl, _⟩ := h; rfl) fun cdv A outer s H vs Q E hr h => ?_
  obtain ⟨p, c, lad, t, rows, rfl, N, ht, hlad, nlad, rnd, rlen, rnm, k⟩ := h
  have hu := hu_of hr
  refine ⟨_, pss_cons (ps_asg (pe_callTy call_list_of (by rfl) T.f_list cs_list (pa_cons (pv 1) pa_nil)) (pg_name (i := 2) hnd rfl (Or.inr rfl)))
    (pss_cons (ps_setLc (i := 3) (own := [("_law_title", 7)]) (g := gName 7) (tt := tYes) (te := tBM K "list" rPopAt (tVar 2) (tCons (tFn spDraw E0 (tCons (tVar 0) (tCons (tCB (fun vs H Q => ∃ p ys, vs = [.ref p] ∧ (SqL K H p ys ∨ SqT K H p ys) ∧ Q (.int ys.length) H) (tCons (tVar 2) tNil)) tNil))) tNil)) rfl hnd rfl rfl (sw_true rfl rfl rfl rfl) (pi_list (pv 1)) (blkOk_by (own := [("_law_title", 7)]) (N := nsN2) (sc := defScope s_law_needs) (by decide +kernel))
      (fun _ _ _ _ _ => pg_name (i := 7) hnd rfl (Or.inl rfl)) (fun _ _ _ _ _ => pts_nil) (fun _ _ _ _ _ => pe_bm PySem.F.plainAttrs_list PySem.F.slot_list_pop PySem.F.type_list_pop mt_popAt (pv 2) (pa_cons (pe_fn G hr (by rfl) T.g_law_draw D.kp pass0 (pa_cons (pv 0) (pa_cons (pe_callB call_len_seq (by rfl) T.f_len PySem.boot_len (pa_cons (pv 2) pa_nil)) pa_nil))) pa_nil)))
    (pss_cons (ps_asg (pe_fn G hr (by rfl) T.g_law_draw D.kp pass0 (pa_cons (pv 0) (pa_cons pe_int pa_nil))) (pg_name (i := 4) hnd rfl (Or.inr rfl)))
    (pss_cons (ps_asg pe_dnewK (pg_name (i := 5) hnd rfl (Or.inl rfl)))
    (pss_cons (ps_for PassesOwn.never rfl (pi_enum (by rfl) T.f_enumerate (pa_cons (pv 3) pa_nil)) (pg_tup (n := 2) rfl (pgs_cons (pg_name (i := 6) hnd rfl (Or.inr rfl)) (pgs_cons (pg_name (i := 7) hnd rfl (Or.inl rfl)) pgs_nil)))
      (pss_cons (ps_asg (pe_slice sl_list (pv 3) po_none (po_some (pv 6))) (pg_name (i := 8) hnd rfl (Or.inl rfl)))
      (pss_cons (ps_if (pt_cmpR op_eq (pv 4) pe_int (nomark _)) (pss_one (ps_asg (pe_lst pa_nil) (pg_name (i := 8) hnd rfl (Or.inl rfl)))) pss_nil)
      (pss_cons (ps_if (pt_cmpR op_eq (pv 4) pe_int (nomark _)) (pss_one (ps_asg (pe_ifExp (pt_cmpR op_gt (pv 6) pe_int (nomark _)) (pe_slice sl_list (pv 3) (po_some (pe_op op_sub (pv 6) pe_int)) (po_some (pv 6))) (pe_lst pa_nil)) (pg_name (i := 8) hnd rfl (Or.inl rfl)))) pss_nil)
      (pss_cons (ps_if (pt_cmpR op_gt (pv 4) pe_int (nomark _)) (pss_one (ps_setLc (i := 8) (own := [("_law_mate", 9)]) (g := gName 9) (tt := tTest (tOp rEq (tFn spDraw E0 (tCons (tVar 0) (tCons (tOp (rIxL K) (tLst (tCons (tC (.int 2)) (tCons (tC (.int 4)) tNil))) (tOp (rI0 fun i j => .int (i - j)) (tVar 4) (tC (.int 3)))) tNil))) (tC (.int 0)))) rfl hnd rfl rfl (sw_true rfl rfl rfl rfl) (pi_list (pe_slice sl_list (pv 3) po_none (po_some (pv 6)))) (blkOk_by (own := [("_law_mate", 9)]) (N := nsN2) (sc := defScope s_law_needs) (by decide +kernel))
        (fun _ _ _ _ _ => pg_name (i := 9) hnd rfl (Or.inl rfl)) (fun _ _ _ _ _ => pts_one (pt_cmpR op_eq (pe_fn G hr (by rfl) T.g_law_draw D.kp pass0 (pa_cons (pv 0) (pa_cons (pe_ix ix_list (pe_lst (pa_cons pe_int (pa_cons pe_int pa_nil))) (pe_op op_sub (pv 4) pe_int) fun _ _ => rfl) pa_nil))) pe_int (nomark _))) (fun _ _ _ _ _ => pv 9))) pss_nil)
      (pss_cons (ps_if (pt_cmpR op_eq (pv 4) pe_int (nomark _)) (pss_one (ps_setLc (i := 8) (own := [("_law_mate", 9)]) (g := gName 9) (tt := tTest (tOp rEq (tFn spDraw E0 (tCons (tVar 0) (tCons (tOp (rI0 fun i j => .int (i + j)) (tVar 6) (tC (.int 1))) tNil))) (tC (.int 0)))) rfl hnd rfl rfl (sw_true rfl rfl rfl rfl) (pi_list (pe_slice sl_list (pv 3) po_none (po_some (pv 6)))) (blkOk_by (own := [("_law_mate", 9)]) (N := nsN2) (sc := defScope s_law_needs) (by decide +kernel))
        (fun _ _ _ _ _ => pg_name (i := 9) hnd rfl (Or.inl rfl)) (fun _ _ _ _ _ => pts_one (pt_cmpR op_eq (pe_fn G hr (by rfl) T.g_law_draw D.kp pass0 (pa_cons (pv 0) (pa_cons (pe_op op_add (pv 6) pe_int) pa_nil))) pe_int (nomark _))) (fun _ _ _ _ _ => pv 9))) pss_nil)
      (pss_one (ps_dput hu (pv 5) (pv 7) (pe_callTy call_tuple_of (by rfl) T.f_tuple cs_tuple (pa_cons (pe_slice sl_list (pe_callB cr_sortedS (by rfl) T.f_sorted bi_sorted (pa_cons (pv 8) pa_nil)) po_none (po_some pe_int)) pa_nil)) rfl))))))))
    (pss_one (ps_ret (pv 5))))))), ?_⟩
  refine q_asgL (el_listE (ev_var rfl) (.inl (sq_of hlad))) fun Lf H1 hL e1 h1 => ?_
  have fL : H Lf = none := fresh_back (Ex.refl H) hL
  have nL := N.new fL
  have N1 := N.ex e1
  have hlad1 := e1 _ _ hlad
  have ladL : lad ≠ Lf := fun z => by rw [z, fL] at hlad; cases hlad
  refine x_asg ⟨.ref lad, rfl, lad, rfl, ⟨_, sq_of hlad1⟩, fun O hO => ?_⟩
  have fO : H O = none := fresh_back e1 hO
  have nO := N.new fO
  have OL : O ≠ Lf := fun z => by rw [z, h1] at hO; cases hO
  have ladO : lad ≠ O := fun z => by rw [z, fO] at hlad; cases hlad
  have wk := walk_list (K := K) (a := lad) (xs := rows.map V.str)
  rw [List.length_map] at wk
  refine lc_it wk (fun i H' => ∃ left out : List Str, ExB p H H' ∧ Pen H' p c (t + i) ∧ H' lad = some (.lst (rows.map V.str)) ∧ H' Lf = some (.lst (left.map V.str)) ∧ H' O = some (.lst (out.map V.str)) ∧ out.length = i ∧ (out ++ left).Perm rows)
    ⟨rows, [], (ExB.ex e1).mut fO, N1.mut nO.1 nO.2, by rw [upd_ne ladO]; exact hlad1, by rw [upd_ne (Ne.symm OL)]; exact h1, upd_same, rfl, List.Perm.refl _⟩ (fun i H' _ pv => ?_) (fun i x H' H'' hi pv y => ?_) fun H' pv => ?_
  · obtain ⟨_, _, _, _, h, _⟩ := pv
    exact sq_of h
  · obtain ⟨rfl, _⟩ := y
    obtain ⟨left, out, g1, g2, g3, g4, g5, g6, g7⟩ := pv
    refine ⟨rfl, ?_⟩
    unfold tYes; dsimp only
    rw [if_pos rfl]
    have hl := g7.length_eq
    rw [List.length_append] at hl
    refine x_pop (L := Lf) (ev_var rfl) (ev_var rfl) g4 nL.1 (by rw [List.length_map]; omega) (by rw [List.length_map]; omega) g2 (by omega) fun j yv H7 hj b7 N7 h7 => ?_
    obtain ⟨z, hz, rfl⟩ := map_str_at hj
    have hjl : j < left.length := (List.getElem?_eq_some_iff.mp hz).1
    have pm : (out ++ left).Perm ((out ++ [z]) ++ left.eraseIdx j) := by
      rw [List.append_assoc]
      exact (erase_perm hz).append_left out
    refine ⟨out.map V.str, ?_, sz_lt (by rw [List.length_map]; omega), left.eraseIdx j, out ++ [z], ((g1.trans b7).mut fL).mut fO, ((N7.mut nL.1 nL.2).mut nO.1 nO.2).le (by omega), ?_, ?_, ?_, ?_, pm.symm.trans g7⟩
    · rw [upd_ne OL]
      exact b7 _ _ nO.1 g5
    · rw [upd_ne ladO, upd_ne ladL]
      exact b7 _ _ nlad g3
    · rw [upd_ne (Ne.symm OL), upd_same, map_erase]
    · rw [upd_same, List.map_append]
      rfl
    · rw [List.length_append, g6]
      rfl
  obtain ⟨left, order, g1, g2, _, _, g5, g6, g7⟩ := pv
  have hl0 : left = [] := by
    have hl := g7.length_eq
    rw [List.length_append] at hl
    exact List.eq_nil_of_length_eq_zero (by omega)
  subst hl0
  rw [List.append_nil] at g7
  have od : order.Nodup := g7.nodup_iff.mpr rnd
  have ol : order.length ≤ 12 := by omega
  change tSeq _ _ _ [some (.ref p), some (.ref lad), some (.ref Lf), some (.ref O), none, none, none, none, none, none] H'
  refine x_asg (x_draw (ev_var rfl) ev_c g2 (by omega) (by decide) (by decide) fun way H2 b2 N2 hway => ?_)
  have b02 := g1.trans b2
  have hO2 : H2 O = some (.lst (order.map V.str)) := b2 _ _ nO.1 g5
  refine x_asg fun d hd => ?_
  have fd : H d = none := b02.back N2 hd
  have nd_ := N.new fd
  have Od : O ≠ d := fun z => by rw [z, hd] at hO2; cases hO2
  change tSeq _ _ _ [some (.ref p), some (.ref lad), some (.ref Lf), some (.ref O), some (.int (way : Int)), some (.ref d), none, none, none, none] _
  have wk2 := walk_enum (K := K) (a := O) (xs := order.map V.str)
  rw [List.length_map] at wk2
  refine q_forW wk2 (fun i σ' H' => (∃ x y z u, σ' = [some (.ref p), some (.ref lad), some (.ref Lf), some (.ref O), some (.int (way : Int)), some (.ref d), x, y, z, u]) ∧ ∃ (nd : Str → List Str) (ad : Str → Addr), ExB p H H' ∧ Pen H' p c (t + 14 + 24 * i) ∧ H' O = some (.lst (order.map V.str)) ∧ NdAt H' d (order.take i) nd ad ∧
      ∀ j z, order[j]? = some z → j < i → (nd z).Nodup ∧ ∀ s ∈ nd z, s ∈ order.take j)
    (fun R k' => ⟨.ref O, rfl, O, _, rfl, sq_of (by rw [upd_ne Od]; exact hO2), k' _ (Ex.refl _) ⟨⟨_, _, _, _, rfl⟩, fun _ => [], fun _ => 0, b02.mut fd, (N2.mut nd_.1 nd_.2).le (by omega), by rw [upd_ne Od]; exact hO2, ⟨upd_same, fun r hr => by cases hr⟩, fun j z _ h => absurd h (Nat.not_lt_zero _)⟩⟩)
    (fun i σ' H' _ pv => ?_) (fun i x σ' H3 H4 hi pv y => ?_) fun σ' H3 pv => ?_
  · obtain ⟨_, _, _, _, _, h, _⟩ := pv
    exact sq_of h
  · obtain ⟨⟨x1, y1, z1, u1, rfl⟩, nd, ad, c1, c2, c3, c4, c5⟩ := pv
    obtain ⟨T', a1, b1, rfl, hT, rfl, ea, eb⟩ := y
    cases ea
    dsimp only at eb
    obtain ⟨r, hr', rfl⟩ := map_str_at eb
    have eT : Ex H3 (upd H3 T' (.tup [.int (i : Nat), .str r])) := Ex.new hT
    refine ⟨T', _, rfl, st_of upd_same, rfl, .int (i : Nat), _, rfl, .str r, [], rfl, rfl, ?_⟩
    have b4 := c1.trans (ExB.ex eT)
    have N4 := c2.ex eT
    have hO4 := eT _ _ c3
    have nd4 : NdAt (upd H3 T' (.tup [.int (i : Nat), .str r])) d (order.take i) nd ad := ⟨eT _ _ c4.hd, fun q hq => eT _ _ (c4.ha q hq)⟩
    clear eT hT
    generalize upd H3 T' (.tup [.int (i : Nat), .str r]) = H4 at *
    have li : i ≤ order.length := by omega
    change tSeq _ _ _ [some (.ref p), some (.ref lad), some (.ref Lf), some (.ref O), some (.int (way : Int)), some (.ref d), some (.int (i : Nat)), some (.str r), z1, u1] H4
    have ect : cutV (order.map V.str) none (some (i : Int)) = (order.take i).map V.str := by
      rw [cut_take (order.map V.str) (by rw [List.length_map]; exact li), List.map_take]
    have cutL : ∀ {σ : L2.St} {H5 : Hp}, σ[3]? = some (some (.ref O)) → σ[6]? = some (some (.int (i : Nat))) → H5 O = some (.lst (order.map V.str)) → EvL (tSl (rSlL K) (tVar 3) tNoPart (tPart (tVar 6))) σ H5 ((order.take i).map V.str) := fun h3 h6 h5 => ect ▸ el_sl (ev_var h3) eo_none (eo_some (ev_var h6)) (sq_of h5)
    refine q_asgL (cutL rfl rfl hO4) fun l5 H5 _ e5 h5 => ?_
    change tSeq _ _ _ [some (.ref p), some (.ref lad), some (.ref Lf), some (.ref O), some (.int (way : Int)), some (.ref d), some (.int (i : Nat)), some (.str r), some (.ref l5), u1] H5
    let R0 : V → Hp → Prop := fun v H6 => ∃ (l : Addr) (ms : List Str), v = .ref l ∧ H6 l = some (.lst (ms.map V.str)) ∧ ms.Sublist (order.take i)
    have R0e : ∀ v H1 H2, Ex H1 H2 → R0 v H1 → R0 v H2 := fun v H1 H2 e ⟨l, ms, q1, q2, q3⟩ => ⟨l, ms, q1, e _ _ q2, q3⟩
    have R0n : ∀ p H1, H1 p = some (HO.lst []) → R0 (.ref p) H1 := fun p H1 h => ⟨p, [], rfl, h, List.nil_sublist _⟩
    refine x_ifR (b := decide (V.int (way : Int) = V.int 0)) (R := R0) (et_test (ev_eq (ev_var rfl) ev_c rfl)) (fun _ => evp_L el_nil R0n) (fun _ => ⟨.ref l5, ⟨l5, _, rfl, h5, List.Sublist.refl _⟩, rfl⟩) R0e fun v H6 e6 rv => ?_
    have hO6 := (e5.trans e6) _ _ hO4
    change tSeq _ _ _ [some (.ref p), some (.ref lad), some (.ref Lf), some (.ref O), some (.int (way : Int)), some (.ref d), some (.int (i : Nat)), some (.str r), some v, u1] H6
    refine x_ifR (b := decide (V.int (way : Int) = V.int 1)) (R := R0) (et_test (ev_eq (ev_var rfl) ev_c rfl)) (fun _ => evp_if (b := decide ((0 : Int) < (i : Nat))) (et_test (ev_op (ev_var rfl) ev_c rv_I0)) (fun hb => ?_) fun _ => evp_L el_nil R0n) (fun _ => ⟨v, rv, rfl⟩) R0e fun v7 H7 e7 rv7 => ?_
    · have h0 : 0 < i := by
        have := of_decide_eq_true hb
        omega
      have ei : ((i : Nat) : Int) - 1 = ((i - 1 : Nat) : Int) := by omega
      have esl : cutV (order.map V.str) (some (((i : Nat) : Int) - 1)) (some (i : Int)) = ((order.take i).drop (i - 1)).map V.str := by
        unfold cutV
        rw [ei, HT.sIx_nat, HT.sIx_nat, List.length_map, Nat.min_eq_left li, Nat.min_eq_left (by omega), ← List.map_drop, ← List.map_take, List.drop_take]
      refine evp_L (esl ▸ el_sl (ev_var rfl) (eo_some (ev_op (ev_var rfl) (y := .int 1) ev_c rv_I0)) (eo_some (ev_var rfl)) (sq_of hO6)) fun p H1 h => ⟨p, _, rfl, h, List.drop_sublist _ _⟩
    have hO7 := e7 _ _ hO6
    have e47 := (e5.trans e6).trans e7
    have N7 := N4.ex e47
    let R1 : Nat → V → Hp → Prop := fun j v H6 => R0 v H6 ∧ ExB p H7 H6 ∧ Pen H6 p c (t + 14 + 24 * i + j)
    have tl : (order.take i).length ≤ 12 := by rw [List.length_take]; omega
    change tSeq _ _ _ [some (.ref p), some (.ref lad), some (.ref Lf), some (.ref O), some (.int (way : Int)), some (.ref d), some (.int (i : Nat)), some (.str r), some v7, u1] H7
    refine x_ifX (b := decide ((2 : Int) < (way : Int))) (R := R1 12) (et_test (ev_op (ev_var rfl) ev_c rv_I0)) (fun hb H8 e8 Q' q' => ?_) (fun _ => ⟨v7, fun H1 e1 => ⟨R0e _ _ _ e1 rv7, ExB.ex e1, (N7.ex e1).le (by omega)⟩, rfl⟩) fun v8 H8 rv8 => ?_
    · have hw : way = 3 ∨ way = 4 := by
        have := of_decide_eq_true hb
        omega
      refine x_pick (size := if way = 3 then 2 else 4) (xs := order.take i) (cutL rfl rfl (e8 _ _ hO7)) (N7.ex e8) (by omega) (by split <;> decide) (by split <;> decide) tl (fun x => rfl) (fun x H1 => ev_var rfl) (fun x H1 => ?_) (fun x => rfl) fun l ms H9 b9 N9 h9 f9 s9 => q' _ _ ⟨⟨l, ms, rfl, h9, s9⟩, (ExB.ex e8).trans b9, N9.le (by omega)⟩
      refine fun H2 e2 Q q => el_lst (ea_cons (x := .int 2) ev_c (ea_cons (x := .int 4) ev_c ea_nil)) (by show 2 ≤ 100000; decide) H2 e2 _ fun a H3 ha e3 h3 => ev_op (x := .int (way : Int)) (y := .int 3) (ev_var rfl) ev_c rv_I0 H3 (Ex.refl H3) _ fun H4 e4 => ⟨a, _, _, _, rfl, rfl, sq_of (e4 _ _ h3), ?_, q H4 (e3.trans e4)⟩
      rcases hw with h | h <;> subst h <;> rfl
    obtain ⟨rv8, b8, N8⟩ := rv8
    have hO8 := b8 _ _ nO.1 hO7
    change tSeq _ _ _ [some (.ref p), some (.ref lad), some (.ref Lf), some (.ref O), some (.int (way : Int)), some (.ref d), some (.int (i : Nat)), some (.str r), some v8, u1] H8
    refine x_ifX (b := decide (V.int (way : Int) = V.int 2)) (R := R1 24) (et_test (ev_eq (ev_var rfl) ev_c rfl)) (fun hb H9 e9 Q' q' => ?_) (fun _ => ⟨v8, fun H1 e1 => ⟨R0e _ _ _ e1 rv8, b8.trans (ExB.ex e1), (N8.ex e1).le (by omega)⟩, rfl⟩) fun v9 H9 rv9 => ?_
    · refine x_pick (size := ((i : Nat) : Int) + 1) (xs := order.take i) (cutL rfl rfl (e9 _ _ hO8)) (N8.ex e9) (by omega) (by omega) (by omega) tl (fun x => rfl) (fun x H1 => ev_var rfl) (fun x H1 => ev_op (ev_var rfl) ev_c rv_I0) (fun x => rfl) fun l ms H10 b10 N10 h10 f10 s10 => q' _ _ ⟨⟨l, ms, rfl, h10, s10⟩, b8.trans ((ExB.ex e9).trans b10), N10.le (by omega)⟩
    obtain ⟨⟨l9, ms, rfl, h9, s9⟩, b9, N9⟩ := rv9
    change sDPut _ _ _ _ [some (.ref p), some (.ref lad), some (.ref Lf), some (.ref O), some (.int (way : Int)), some (.ref d), some (.int (i : Nat)), some (.str r), some (.ref l9), u1] H9
    have msl : ms.length ≤ 12 := Nat.le_trans s9.length_le tl
    refine evp_sorted25 (ev_var rfl) h9 msl H9 (Ex.refl H9) _ fun v H10 e10 rv => ?_
    obtain ⟨q, ys, rfl, hq, pq⟩ := rv
    have b0 : ExB p H H10 := b4.trans ((ExB.ex e47).trans (b9.trans (ExB.ex e10)))
    have bn : ExB p H4 H10 := (ExB.ex e47).trans (b9.trans (ExB.ex e10))
    have N10 := N9.ex e10
    have hd10 : H10 d = some (.dK (dO (order.take i) fun r => .ref (ad r))) := bn _ _ nd_.1 nd4.hd
    have qd : q ≠ d := fun z => by rw [z, hd10] at hq; cases hq
    have np : ∀ a : Addr, ∀ xs : List V, H4 a = some (.tup xs) → a ≠ p := fun a xs h z => by
      obtain ⟨_, _, _, n4, _⟩ := N4
      rw [z, n4.hp] at h
      cases h
    have rn : r ∉ order.take i := take_notin od hr'
    have et : order.take (i + 1) = order.take i ++ [r] := by rw [List.take_succ, hr']; rfl
    refine ⟨.ref d, rfl, .str r, rfl, d, _, rfl, .inl ⟨_, Sum.inr r, hd10, rfl, sz_lt (by rw [dO_len]; omega), rfl⟩, ⟨_, _, _, _, rfl⟩, fun s => if s = r then ys else nd s, fun s => if s = r then q else ad s, b0.mut fd, (N10.mut nd_.1 nd_.2).le (by omega), by rw [upd_ne Od]; exact bn _ _ nO.1 hO4, ⟨?_, fun s hs => ?_⟩, fun j z hj hji => ?_⟩
    · rw [upd_same, putK_dO rn, et]
      congr 2
      refine dO_congr fun s _ => ?_
      split <;> rfl
    · by_cases hsr : s = r
      · rw [if_pos hsr, if_pos hsr, upd_ne qd]
        exact hq
      · rw [if_neg hsr, if_neg hsr]
        have hs' : s ∈ order.take i := by
          rw [et] at hs
          exact (List.mem_append.mp hs).resolve_right fun z => hsr (List.mem_singleton.mp z)
        have ha := nd4.ha s hs'
        rw [upd_ne fun z => by rw [z] at ha; rw [nd4.hd] at ha; cases ha]
        exact bn _ _ (np _ _ ha) ha
    · dsimp only
      by_cases hzr : z = r
      · subst hzr
        have hji' : j = i := by
          have h1 := (List.getElem?_eq_some_iff.mp hj)
          have h2 := (List.getElem?_eq_some_iff.mp hr')
          exact (List.getElem_inj od).mp (h1.2.trans h2.2.symm)
        subst hji'
        rw [if_pos rfl]
        exact ⟨pq.nodup_iff.mpr (List.Nodup.sublist s9 (List.Nodup.sublist (List.take_sublist _ _) od)), fun s hs => s9.subset (pq.mem_iff.mp hs)⟩
      · rw [if_neg hzr]
        refine c5 j z hj ?_
        rcases Nat.lt_succ_iff_lt_or_eq.mp hji with h | h
        · exact h
        · rw [h, hr'] at hj
          exact absurd (Option.some.inj hj).symm hzr
  · obtain ⟨⟨x1, y1, z1, u1, rfl⟩, nd, ad, c1, c2, c3, c4, c5⟩ := pv
    rw [List.take_of_length_le (Nat.le_refl _)] at c4
    have mem : ∀ r, r ∈ rows → ∃ j : Nat, order[j]? = some r ∧ j < order.length := fun r hr => by
      obtain ⟨j, hj, e⟩ := List.getElem_of_mem (g7.mem_iff.mpr hr)
      exact ⟨j, by rw [List.getElem?_eq_getElem hj, e], hj⟩
    refine x_ret (x_ev (ev_var rfl) fun H4 e4 => k d order nd ad H4 (c1.trans (ExB.ex e4)) ((c2.ex e4).le (by omega)) ⟨e4 _ _ c4.hd, fun q hq => e4 _ _ (c4.ha q hq)⟩ g7 ⟨rnd, rlen, rnm, fun r hr s hs => ?_, fun r hr => ?_, ix order, fun r hr s hs => ?_⟩ fd)
    · obtain ⟨j, hj, hl⟩ := mem r hr
      exact g7.mem_iff.mp (List.mem_of_mem_take ((c5 j r hj hl).2 s hs))
    · obtain ⟨j, hj, hl⟩ := mem r hr
      exact (c5 j r hj hl).1
    · obtain ⟨j, hj, hl⟩ := mem r hr
      have h1 := (c5 j r hj hl).2 s hs
      obtain ⟨m, hm, em⟩ := List.getElem_of_mem h1
      rw [List.length_take] at hm
      rw [List.getElem_take] at em
      rw [ix_of od hj, ix_of od (i := m) (by rw [List.getElem?_eq_getElem (by omega), em])]
      omega
end
end K29
set_option Elab.async false
set_option linter.all false
set_option maxRecDepth 100000
set_option maxHeartbeats 4000000
/-! _law_below. -/
namespace K29
open PySem PySem.Spec PyProof.Rows L2 Evl
section
variable {P : Program} {w : World} {K : PySem.W.Frag} {mg : Str → Option Value} {base : Heap}
/-- a dict from each of ks to a list of keys -/
structure LlAt (H : Hp) (d : Addr) (ks : List Str) (bl : Str → List Str) (ad : Str → Addr) : Prop where
  hd : H d = some (.dK (dO ks fun r => .ref (ad r)))
  ha : ∀ r ∈ ks, H (ad r) = some (.lst ((bl r).map V.str))
/-- what the inner loop holds -/
def BW (nd : Str → List Str) (ks : List Str) (Hi : Hp) (r : Str) (S L d f : Addr) : Nat → L2.St → Hp → Prop := fun m σ' H' => ∃ (sm lf : List Str) (x : Option V), m = (12 - sm.length) * 13 + lf.length ∧ σ' = [some (.ref d), some (.ref f), some (.str r), some (.ref S), some (.ref L), x] ∧ Ex Hi H' ∧ H' S = some (.lst (sm.map V.str)) ∧ H' L = some (.lst (lf.map V.str)) ∧
  sm.Nodup ∧ (∀ x ∈ sm, x ∈ ks ∧ Dep nd x r) ∧ (∀ x ∈ lf, x ∈ ks ∧ Dep nd x r) ∧ (∀ x ∈ nd r, x ∈ sm ∨ x ∈ lf) ∧ (∀ x ∈ sm, ∀ y ∈ nd x, y ∈ sm ∨ y ∈ lf) ∧ lf.length ≤ 12 * (sm.length + 1)
theorem dep_closed {nd : Str → List Str} {sm : List Str} (h1 : ∀ x ∈ sm, ∀ y ∈ nd x, y ∈ sm) {s r : Str} (d : Dep nd s r) : (∀ x ∈ nd r, x ∈ sm) → s ∈ sm := by
  induction d with
  | base h => exact fun h0 => h0 _ h
  | step h _ ih => exact fun h0 => ih (h1 _ (h0 _ h))
theorem x_drop {σ : L2.St} {H : Hp} {te : TE} {tz : TS} {D : Ends} (h : te σ H fun _ H1 => tz D σ H1) : tSeq (tDrop te) tz D σ H := h
theorem x_drop1 {σ : L2.St} {H : Hp} {te : TE} {D : Ends} (h : te σ H fun _ H1 => D.nx σ H1) : tDrop te D σ H := h
abbrev nsB : List Str := ["_law_wants", "_law_found", "_law_title", "_law_some", "_law_left", "_law_mate"]
theorem sc_law_below : FnScope nsB ["_law_wants"] (defScope s_law_below) := ⟨rfl, rfl, rfl, by decide +kernel, rfl, by decide +kernel, by decide +kernel⟩
def spLBelow : Sp := fun vs H Q _ => ∃ (d : Addr) (ks : List Str) (nd : Str → List Str) (ad : Str → Addr), vs = [.ref d] ∧ NdAt H d ks nd ad ∧ (∀ r ∈ ks, ∀ s ∈ nd r, s ∈ ks) ∧ (∀ r ∈ ks, (nd r).length ≤ 12) ∧ ks.Nodup ∧ ks.length ≤ 12 ∧ (∀ r ∈ ks, IsName r) ∧
  ∀ (f : Addr) (bl : Str → List Str) (al : Str → Addr) H2, Ex H H2 → LlAt H2 f ks bl al → (∀ r ∈ ks, ∀ s, s ∈ bl r ↔ Dep nd s r) → H f = none → (∀ r ∈ ks, H (al r) = none) → Q (.ref f) H2
theorem ok_law_below (T : Tx K mg) : FnR P w K mg base CX0 1 (He.ga K "_law_below") spLBelow := by
  have hnd := sc_law_below.nd
  refine fnr T.d_law_below sc_law_below (fun _ _ _ _ _ _ us hl => match us, hl with | [_], _ => rfl) (fun vs H Q E h => by obtain ⟨d, ks, nd, ad, rfl, _⟩ := h; rfl) fun cdv A outer s H vs Q E hr h => ?_
  obtain ⟨d, ks, nd, ad, rfl, N, hsub, hnl, hkn, hkl, hnm, k⟩ := h
  have hu := hu_of hr
  refine ⟨_, pss_cons (ps_asg pe_dnewK (pg_name (i := 1) hnd rfl (Or.inl rfl)))
    (pss_cons (ps_lock (ps_for PassesOwn.never rfl (pi_keys (pv 0)) (pg_name (i := 2) hnd rfl (Or.inl rfl))
      (pss_cons (ps_asg (pe_lst pa_nil) (pg_name (i := 3) hnd rfl (Or.inl rfl)))
      (pss_cons (ps_asg (pe_callTy call_list_of (by rfl) T.f_list cs_list (pa_cons (pe_dget hu (pv 0) (pv 2) (fun _ _ => rfl)) pa_nil)) (pg_name (i := 4) hnd rfl (Or.inl rfl)))
      (pss_cons (ps_while PassesOwn.never (pt_cmpR (op_neD hr.units) (pv 4) (pe_lst pa_nil) (nomark _))
        (pss_cons (ps_asg (pe_bm0 PySem.F.plainAttrs_list PySem.F.slot_list_pop PySem.F.type_list_pop mt_pop (pv 4)) (pg_name (i := 5) hnd rfl (Or.inl rfl)))
        (pss_one (ps_if (pt_cmpR op_notIn_seq (pv 5) (pv 3) rfl)
          (pss_cons (ps_expr (pe_bm PySem.F.plainAttrs_list PySem.F.slot_list_append PySem.F.type_list_append mt_append (pv 3) (pa_cons (pv 5) pa_nil)))
          (pss_one (ps_expr (pe_bm PySem.F.plainAttrs_list PySem.F.slot_list_extend PySem.F.type_list_extend mt_extend (pv 4) (pa_cons (pe_callTy call_list_of (by rfl) T.f_list cs_list (pa_cons (pe_dget hu (pv 0) (pv 5) (fun _ _ => rfl)) pa_nil)) pa_nil))))) pss_nil))))
      (pss_one (ps_dput hu (pv 1) (pv 2) (pv 3) rfl)))))))
    (pss_one (ps_ret (pv 1)))), ?_⟩
  refine x_asg fun f hf => ?_
  have df : d ≠ f := fun z => by have h := N.hd; rw [z, hf] at h; cases h
  have e1 : Ex H (upd H f (.dK [])) := Ex.new hf
  have hd1 := e1 _ _ N.hd
  refine ⟨d, _, hd1, True.intro, fun od => ?_⟩
  have wk := walk_keys (d := d) (o := od) (kvs := dO ks fun r => V.ref (ad r))
  rw [dO_len] at wk
  have lk : ExB d H (upd (upd H f (.dK [])) d (.frz od (.dK (dO ks fun r => .ref (ad r))))) := (ExB.ex e1).trans ExB.upd
  refine s_forWn wk (fun i σ' H' => (∃ x y z u, σ' = [some (.ref d), some (.ref f), x, y, z, u]) ∧ ∃ (bl : Str → List Str) (al : Str → Addr), ExB d H H' ∧ H' d = some (.frz od (.dK (dO ks fun r => .ref (ad r)))) ∧ LlAt H' f (ks.take i) bl al ∧ (∀ r ∈ ks.take i, ∀ s, s ∈ bl r ↔ Dep nd s r) ∧ ∀ r ∈ ks.take i, H (al r) = none)
    (fun R k' => ⟨.ref d, rfl, d, od, rfl, .inl ⟨_, upd_same, k' _ (Ex.refl _) ⟨⟨_, _, _, _, rfl⟩, fun _ => [], fun _ => 0, lk, upd_same, ⟨by rw [upd_ne (Ne.symm df)]; exact upd_same, fun r hr => by cases hr⟩, (fun r hr => by cases hr), fun r hr => by cases hr⟩⟩⟩)
    (fun i σ' H' _ pv => ?_) (fun i x σ' Hj Hi hi pv y => ?_) fun σ' H' pv => ?_
  · obtain ⟨_, _, _, _, h, _⟩ := pv
    exact h
  · obtain ⟨⟨x1, y1, z1, u1, rfl⟩, bl, al, c1, c2, c3, c4, c5⟩ := pv
    obtain ⟨rfl, kk, vv, hk, rfl⟩ := y
    rw [dO_at hi] at hk
    cases hk
    have hr0 : ks[i]? = some ks[i] := List.getElem?_eq_getElem hi
    have hrk : ks[i] ∈ ks := List.getElem_mem hi
    generalize ks[i] = r at hr0 hrk
    change tSeq _ _ _ [some (.ref d), some (.ref f), some (.str r), y1, z1, u1] Hi
    have nda : ∀ q ∈ ks, ad q ≠ d := fun q hq z => by
      have := N.ha q hq
      rw [z, N.hd] at this
      cases this
    have gi : ∀ {H'}, Ex Hi H' → ∀ {q}, q ∈ ks → H' (ad q) = some (.tup ((nd q).map V.str)) := fun e q hq => e _ _ (c1 _ _ (nda q hq) (N.ha q hq))
    refine q_asgL el_nil fun S H2 hS e2 h2 => ?_
    refine q_asgL (el_listE (ev_dget (r := r) (ev_var rfl) (ev_var rfl) (.inr ⟨od, e2 _ _ c2⟩) hrk) (.inr (st_of (gi e2 hrk)))) fun L H3 hL e3 h3 => ?_
    have fL : Hi L = none := fresh_back e2 hL
    have SL : S ≠ L := fun z => by rw [← z, h2] at hL; cases hL
    change tSeq _ _ _ [some (.ref d), some (.ref f), some (.str r), some (.ref S), some (.ref L), u1] H3
    refine q_while (BW nd ks Hi r S L d f) _ ⟨[], nd r, u1, rfl, rfl, e2.trans e3, e3 _ _ h2, h3, .nil, (fun x hx => by cases hx), (fun x hx => ⟨hsub r hrk x hx, .base hx⟩), (fun x hx => .inr hx), (fun x hx => by cases hx), hnl r hrk⟩ fun m σ' H' hW => ?_
    obtain ⟨sm, lf, xx, rfl, rfl, g1, g2, g3, g4, g5, g6, g7, g8, g9⟩ := hW
    refine ⟨!(lf.map PyData.str).isEmpty, et_test (ev_ne0L (ev_dat (ev_var rfl) (.lst (sq_of g3) (dpAll_S _))) (shaped_SL fun x hx => nm_ok (hnm x (g6 x hx).1))), fun hb H5 e5 => ⟨_, fun _ _ h => h, ?_⟩, fun hb H5 e5 => ?_⟩
    · obtain ⟨lf', x, rfl⟩ : ∃ lf' x, lf = lf' ++ [x] := by
        rcases List.eq_nil_or_concat lf with h | ⟨a, b, h⟩
        · rw [h] at hb; cases hb
        · exact ⟨a, b, by rw [h, List.concat_eq_append]⟩
      have g2' := e5 _ _ g2
      have g3' := e5 _ _ g3
      have g1' := g1.trans e5
      have hlast : ((lf' ++ [x]).map V.str)[((lf' ++ [x]).map V.str).length - 1]? = some (.str x) := by simp
      have hdrop : ((lf' ++ [x]).map V.str).dropLast = lf'.map V.str := by simp
      have hxk := g6 x (by simp)
      rw [List.length_append, List.length_singleton] at g9
      refine x_asg ⟨.ref L, rfl, .inl ⟨rfl, _, sq_of g3'⟩, L, _, _, rfl, rfl, g3', hlast, ?_⟩
      rw [hdrop]
      have g16 : Ex Hi (upd H5 L (.lst (lf'.map V.str))) := Ex.mut g1' fL
      have g26 : (upd H5 L (.lst (lf'.map V.str))) S = some (.lst (sm.map V.str)) := by rw [upd_ne SL]; exact g2'
      have g36 : (upd H5 L (.lst (lf'.map V.str))) L = some (.lst (lf'.map V.str)) := upd_same
      generalize upd H5 L (.lst (lf'.map V.str)) = H6 at *
      change tIfS _ _ _ _ [some (.ref d), some (.ref f), some (.str r), some (.ref S), some (.ref L), some (.str x)] H6
      refine s_if (D := { nx := fun σ2 H2 => ∃ m', m' < _ ∧ BW nd ks Hi r S L d f m' σ2 H2, rt := _, bk := _, ct := _ }) (b := !decide (x ∈ sm)) (et_test (ev_notInL (ev_var rfl) (ev_var rfl) (sq_of g26))) (fun hx H7 e7 => ?_) fun hx H7 e7 => ?_
      · have hx' : x ∉ sm := fun z => by rw [decide_eq_true z] at hx; cases hx
        have snd : (sm ++ [x]).Nodup := nd_snoc g4 hx'
        have ssub : ∀ y ∈ sm ++ [x], y ∈ ks := fun y hy => (List.mem_append.mp hy).elim (fun h => (g5 y h).1) fun h => List.mem_singleton.mp h ▸ hxk.1
        have sl := len_sub snd ssub
        rw [List.length_append, List.length_singleton] at sl
        have nl := hnl x hxk.1
        refine x_drop ⟨.ref S, rfl, .inl ⟨rfl, _, sq_of (e7 _ _ g26)⟩, .str x, rfl, S, _, _, rfl, rfl, e7 _ _ g26, sz_lt (by rw [List.length_map]; omega), ?_⟩
        have S7 : Hi S = none := hS
        have g18 : Ex Hi (upd H7 S (.lst (sm.map V.str ++ [V.str x]))) := Ex.mut (g16.trans e7) S7
        have g38 : (upd H7 S (.lst (sm.map V.str ++ [V.str x]))) L = some (.lst (lf'.map V.str)) := by rw [upd_ne (Ne.symm SL)]; exact e7 _ _ g36
        have g28 : (upd H7 S (.lst (sm.map V.str ++ [V.str x]))) S = some (.lst ((sm ++ [x]).map V.str)) := by rw [upd_same, List.map_append]; rfl
        generalize upd H7 S (.lst (sm.map V.str ++ [V.str x])) = H8 at *
        refine x_drop1 ⟨.ref L, rfl, .inl ⟨rfl, _, sq_of g38⟩, ?_⟩
        refine el_listE (H := H8) (σ := [some (.ref d), some (.ref f), some (.str r), some (.ref S), some (.ref L), some (.str x)]) (te := tDGet (tVar 0) (tVar 5)) (ev_dget (r := x) (ev_var rfl) (ev_var rfl) (.inr ⟨od, g18 _ _ c2⟩) hxk.1) (.inr (st_of (gi g18 hxk.1))) H8 (Ex.refl H8) _ fun l H9 hl e9 h9 => ?_
        refine ⟨L, l, _, _, rfl, rfl, e9 _ _ g38, h9, sz_of (by rw [List.length_map, List.length_map]; omega), ?_⟩
        refine ⟨(12 - (sm ++ [x]).length) * 13 + (lf' ++ nd x).length, ?_, sm ++ [x], lf' ++ nd x, _, rfl, rfl, Ex.mut (g18.trans e9) fL, ?_, ?_, snd, (fun y hy => (List.mem_append.mp hy).elim (g5 y) fun h => List.mem_singleton.mp h ▸ hxk), (fun y hy => ?_), (fun y hy => ?_), (fun y hy z hz => ?_), ?_⟩
        · rw [List.length_append, List.length_append, List.length_append, List.length_singleton]
          omega
        · rw [upd_ne SL]
          exact e9 _ _ g28
        · rw [upd_same, List.map_append]
        · rcases List.mem_append.mp hy with h | h
          · exact g6 y (List.mem_append_left _ h)
          · exact ⟨hsub x hxk.1 y h, .trans (.base h) hxk.2⟩
        · rcases g7 y hy with h | h
          · exact .inl (List.mem_append_left _ h)
          · rcases List.mem_append.mp h with h | h
            · exact .inr (List.mem_append_left _ h)
            · exact .inl (List.mem_append_right _ h)
        · rcases List.mem_append.mp hy with h | h
          · rcases g8 y h z hz with h | h
            · exact .inl (List.mem_append_left _ h)
            · rcases List.mem_append.mp h with h | h
              · exact .inr (List.mem_append_left _ h)
              · exact .inl (List.mem_append_right _ h)
          · rw [List.mem_singleton.mp h] at hz
            exact .inr (List.mem_append_right _ hz)
        · rw [List.length_append, List.length_append, List.length_singleton]
          omega
      · have hx' : x ∈ sm := by
          cases h : decide (x ∈ sm) with
          | true => exact of_decide_eq_true h
          | false => rw [h] at hx; cases hx
        refine ⟨(12 - sm.length) * 13 + lf'.length, ?_, sm, lf', _, rfl, rfl, g16.trans e7, e7 _ _ g26, e7 _ _ g36, g4, g5, (fun y hy => g6 y (List.mem_append_left _ hy)), (fun y hy => ?_), (fun y hy z hz => ?_), by omega⟩
        · rw [List.length_append, List.length_singleton]
          omega
        · rcases g7 y hy with h | h
          · exact .inl h
          · rcases List.mem_append.mp h with h | h
            · exact .inr h
            · exact .inl (List.mem_singleton.mp h ▸ hx')
        · rcases g8 y hy z hz with h | h
          · exact .inl h
          · rcases List.mem_append.mp h with h | h
            · exact .inr h
            · exact .inl (List.mem_singleton.mp h ▸ hx')
    · have hlf : lf = [] := by
        cases lf with
        | nil => rfl
        | cons _ _ => cases hb
      subst hlf
      have e15 := g1.trans e5
      have gm : ∀ q, q ∈ sm ↔ Dep nd q r := fun q => ⟨fun h => (g5 q h).2, fun h => dep_closed (fun x hx y hy => (g8 x hx y hy).resolve_right fun z => by cases z) h fun x hx => (g7 x hx).resolve_right fun z => by cases z⟩
      have hf5 : H5 f = some (.dK (dO (ks.take i) fun r => .ref (al r))) := e15 _ _ c3.hd
      have rn : r ∉ ks.take i := take_notin hkn hr0
      have et : ks.take (i + 1) = ks.take i ++ [r] := by rw [List.take_succ, hr0]; rfl
      have fS : H S = none := by
        cases h : H S with
        | none => rfl
        | some o =>
          by_cases z : S = d
          · rw [z, c2] at hS; cases hS
          · have := c1 _ _ z h
            rw [hS] at this
            cases this
      have Sf : S ≠ f := fun z => by rw [z, c3.hd] at hS; cases hS
      have nn : ∀ q, q ∈ ks.take (i + 1) → q ≠ r → q ∈ ks.take i := fun q hq hne => by
        rw [et] at hq
        exact (List.mem_append.mp hq).resolve_right fun z => hne (List.mem_singleton.mp z)
      have iln : i < 12 := by omega
      change sDPut _ _ _ _ [some (.ref d), some (.ref f), some (.str r), some (.ref S), some (.ref L), xx] H5
      refine ⟨.ref S, rfl, .ref f, rfl, .str r, rfl, f, _, rfl, .inl ⟨_, Sum.inr r, hf5, rfl, sz_lt (by rw [dO_len, List.length_take]; omega), rfl⟩, ⟨_, _, _, _, rfl⟩, fun q => if q = r then sm else bl q, fun q => if q = r then S else al q, ?_, ?_, ⟨?_, fun q hq => ?_⟩, fun q hq x => ?_, fun q hq => ?_⟩
      · exact (c1.trans (ExB.ex e15)).mut hf
      · rw [upd_ne df]
        exact e15 _ _ c2
      · rw [upd_same, putK_dO rn, et]
        congr 2
        refine dO_congr fun q _ => ?_
        split <;> rfl
      · by_cases hqr : q = r
        · rw [if_pos hqr, if_pos hqr, upd_ne Sf]
          exact e5 _ _ g2
        · rw [if_neg hqr, if_neg hqr]
          have ha := c3.ha q (nn q hq hqr)
          rw [upd_ne fun z => by rw [z, c3.hd] at ha; cases ha]
          exact e15 _ _ ha
      · dsimp only
        by_cases hqr : q = r
        · rw [if_pos hqr, hqr]
          exact gm x
        · rw [if_neg hqr]
          exact c4 q (nn q hq hqr) x
      · dsimp only
        by_cases hqr : q = r
        · rw [if_pos hqr]
          exact fS
        · rw [if_neg hqr]
          exact c5 q (nn q hq hqr)
  · obtain ⟨⟨x1, y1, z1, u1, rfl⟩, bl, al, c1, c2, c3, c4, c5⟩ := pv
    rw [List.take_of_length_le (Nat.le_refl _)] at c3 c4 c5
    refine ⟨c2, ?_⟩
    have eF : Ex H (upd H' d (.dK (dO ks fun r => .ref (ad r)))) := fun a o h => by
      by_cases z : a = d
      · rw [z, upd_same, ← h, z, N.hd]
      · rw [upd_ne z]
        exact c1 _ _ z h
    refine x_ret (x_ev (ev_var rfl) fun H4 e4 => k f bl al H4 (eF.trans e4) ⟨e4 _ _ ?_, fun q hq => e4 _ _ ?_⟩ c4 hf c5)
    · rw [upd_ne (Ne.symm df)]
      exact c3.hd
    · have ha := c3.ha q hq
      rw [upd_ne fun z => by rw [z, c2] at ha; cases ha]
      exact ha
end
end K29
set_option Elab.async false
set_option linter.all false
set_option maxRecDepth 100000
set_option maxHeartbeats 4000000
/-! _law_bars, _law_is_keep. -/
namespace K29
open PySem PySem.Spec PyProof.Rows L2 Evl
theorem ix_no : ∀ {l : List Str} {r : Str} {m : Nat} {z : Str}, m < ix l r → l[m]? = some z → z ≠ r
  | [], _, _, _, h, _ => by cases h
  | a :: l, r, m, z, h, hz => by
    unfold ix at h
    by_cases e : a = r
    · rw [if_pos e] at h
      cases h
    · rw [if_neg e] at h
      cases m with
      | zero => cases hz; exact e
      | succ m => exact ix_no (l := l) (by omega) hz
section
variable {K : PySem.W.Frag} {σ : L2.St} {H H' : Hp} {te ta tb : TE} {Q : VK}
theorem ev_index {p : Addr} {rows : List Str} {r : Str} (ha : Ev ta σ H (.ref p)) (hb : Ev tb σ H (.str r)) (hp : SqL K H p (rows.map V.str)) (hr : r ∈ rows) : Ev (tBM K "list" (rIndex K) ta (tCons tb tNil)) σ H (.int (ix rows r : Nat)) := fun H1 e Q q =>
  ha H1 e _ fun H2 e2 => ⟨.inl ⟨rfl, _, ex_l (e.trans e2) hp⟩, hb H2 (e.trans e2) _ fun H3 e3 => ⟨p, rows.map V.str, .str r, ix rows r, .str r, rfl, rfl, ex_l ((e.trans e2).trans e3) hp, rfl, flat_strs rows, by rw [List.getElem?_map, ix_at hr]; rfl, (by show (r == r) = true; exact beq_self_eq_true r), fun m z' hm hz => by
    obtain ⟨z, hz', rfl⟩ := map_str_at hz
    have := ix_no hm hz'
    show (z == r) = false
    simpa using this, q H3 (e2.trans e3)⟩⟩
end
section
variable {P : Program} {w : World} {K : PySem.W.Frag} {mg : Str → Option Value} {base : Heap}
theorem sc_law_bars : FnScope ["_law_ladder", "_law_below_here", "_law_lead", "_law_mate"] ["_law_ladder", "_law_below_here", "_law_lead", "_law_mate"] (defScope s_law_bars) := ⟨rfl, rfl, rfl, by decide +kernel, rfl, by decide +kernel, by decide +kernel⟩
/-- what the law's own criterion looks at: the ladder, what is below -/
structure Lw (H : Hp) (l b : Addr) (rows ks : List Str) (bl : Str → List Str) (al : Str → Addr) : Prop where
  hl : H l = some (.lst (rows.map V.str))
  hb : LlAt H b ks bl al
  hk : ∀ r, r ∈ ks ↔ r ∈ rows
theorem LlAt.ex {H H' : Hp} {d : Addr} {ks : List Str} {bl : Str → List Str} {ad : Str → Addr} (h : LlAt H d ks bl ad) (e : Ex H H') : LlAt H' d ks bl ad := ⟨e _ _ h.hd, fun r hr => e _ _ (h.ha r hr)⟩
theorem Lw.ex {H H' : Hp} {l b : Addr} {rows ks : List Str} {bl : Str → List Str} {al : Str → Addr} (h : Lw H l b rows ks bl al) (e : Ex H H') : Lw H' l b rows ks bl al := ⟨e _ _ h.hl, h.hb.ex e, h.hk⟩
def spLBars : Sp := fun vs H Q _ => ∃ (l b p q : Addr) (rows ks : List Str) (bl : Str → List Str) (al : Str → Addr) (c d : Str × Int), vs = [.ref l, .ref b, .ref p, .ref q] ∧ Lw H l b rows ks bl al ∧ CpAt H p c ∧ CpAt H q d ∧ c.1 ∈ rows ∧ d.1 ∈ rows ∧ RetV (.bl (barB rows bl c d)) H Q
theorem ok_law_bars (T : Tx K mg) : FnR P w K mg base CX0 1 (He.ga K "_law_bars") spLBars := by
  refine fnr T.d_law_bars sc_law_bars (fun _ _ _ _ _ _ us hl => match us, hl with | [_, _, _, _], _ => rfl) (fun vs H Q E h => by obtain ⟨l, b, p, q, rows, ks, bl, al, c, d, rfl, _⟩ := h; rfl) fun cdv A outer s H vs Q E hr h => ?_
  obtain ⟨l, b, p, q, rows, ks, bl, al, c, d, rfl, L, hp, hq, hc, hd, k⟩ := h
  have hu := hu_of hr
  refine ⟨_, pss_cons (ps_if (PW.pt (pw_and (pt_cmpR op_ne (pe_t (pv 2)) (pe_t (pv 3)) (nomark _)) (pw_and1 (pt_cmpR op_notIn_seq (pe_t (pv 2)) (pe_dget hu (pv 1) (pe_t (pv 3)) (fun _ _ => rfl)) rfl)))) (pss_one (ps_ret pe_bl)) pss_nil)
    (pss_cons (ps_if (pt_cmpR op_ne (pe_t (pv 2)) (pe_t (pv 3)) (nomark _)) (pss_one (ps_ret (pe_cmpR op_gt (pe_t (pv 2)) (pe_t (pv 3)) (nomark _)))) pss_nil)
    (pss_one (ps_ret (pe_cmpR op_gt (pe_bm PySem.F.plainAttrs_list PySem.F.slot_list_index PySem.F.type_list_index mt_index (pv 0) (pa_cons (pe_t (pv 2)) pa_nil)) (pe_bm PySem.F.plainAttrs_list PySem.F.slot_list_index PySem.F.type_list_index mt_index (pv 0) (pa_cons (pe_t (pv 3)) pa_nil)) (nomark _))))), ?_⟩
  have i1 : ∀ {H1}, Ex H H1 → Ev (tOp (rIxT K) (tVar 2) (tC (.int 0))) [some (V.ref l), some (V.ref b), some (V.ref p), some (V.ref q)] H1 (.str c.1) := fun e => ev_ixT (i := 0) (ev_var rfl) (st_of (e _ _ hp)) rfl
  have i2 : ∀ {H1}, Ex H H1 → Ev (tOp (rIxT K) (tVar 3) (tC (.int 0))) [some (V.ref l), some (V.ref b), some (V.ref p), some (V.ref q)] H1 (.str d.1) := fun e => ev_ixT (i := 0) (ev_var rfl) (st_of (e _ _ hq)) rfl
  have j1 : ∀ {H1}, Ex H H1 → Ev (tOp (rIxT K) (tVar 2) (tC (.int 1))) [some (V.ref l), some (V.ref b), some (V.ref p), some (V.ref q)] H1 (.int c.2) := fun e => ev_ixT (i := 1) (ev_var rfl) (st_of (e _ _ hp)) rfl
  have j2 : ∀ {H1}, Ex H H1 → Ev (tOp (rIxT K) (tVar 3) (tC (.int 1))) [some (V.ref l), some (V.ref b), some (V.ref p), some (V.ref q)] H1 (.int d.2) := fun e => ev_ixT (i := 1) (ev_var rfl) (st_of (e _ _ hq)) rfl
  have hk : d.1 ∈ ks := (L.hk _).mpr hd
  refine q_when (b := !(decide (V.str c.1 = V.str d.1)) && !decide (c.1 ∈ bl d.1)) (et_and (et_test (ev_ne (i1 (Ex.refl H)) (i2 (Ex.refl H)) rfl)) fun _ => et_test (ev_notInL (i1 (Ex.refl H)) (ev_dget (ev_var rfl) (i2 (Ex.refl H)) (.inl L.hb.hd) hk) (sq_of (L.hb.ha _ hk)))) (fun hb H1 e1 => ?_) (fun hb H1 e1 => ?_)
  · obtain ⟨g1, g2⟩ := Bool.and_eq_true_iff.mp hb
    have g1' : ¬ c.1 = d.1 := fun e => by rw [e] at g1; simp at g1
    have g2' : ¬ c.1 ∈ bl d.1 := fun e => by rw [decide_eq_true e] at g2; cases g2
    refine s_ret (v := .bl false) ev_c fun H2 e2 => ?_
    have eb : barB rows bl c d = false := by
      unfold barB
      rw [decide_eq_false g1', decide_eq_false g2']
      rfl
    rw [eb] at k
    exact k.go (e1.trans e2)
  · have eb : (decide (c.1 = d.1) || decide (c.1 ∈ bl d.1)) = true := by
      by_cases g1 : c.1 = d.1
      · rw [decide_eq_true g1]; rfl
      · by_cases g2 : c.1 ∈ bl d.1
        · rw [decide_eq_true g2, Bool.or_true]
        · exfalso
          have g3 : ¬ V.str c.1 = V.str d.1 := fun e => g1 (by injection e)
          rw [decide_eq_false g3, decide_eq_false g2] at hb
          cases hb
    refine q_when (b := !decide (V.int c.2 = V.int d.2)) (et_test (ev_ne (j1 e1) (j2 e1) rfl)) (fun hb H2 e2 => ?_) (fun hb H2 e2 => ?_)
    · have hne : ¬ c.2 = d.2 := fun z => by rw [z] at hb; simp at hb
      refine s_ret (ev_is (ev_op (j1 (e1.trans e2)) (j2 (e1.trans e2)) rv_I0) (w := .bl (barB rows bl c d)) ?_) fun H3 e3 => k.go ((e1.trans e2).trans e3)
      unfold barB
      rw [eb, Bool.true_and, if_neg hne]
    · have hne : c.2 = d.2 := by
        by_cases z : c.2 = d.2
        · exact z
        · have z' : ¬ V.int c.2 = V.int d.2 := fun e => z (by injection e)
          rw [decide_eq_false z'] at hb
          cases hb
      refine s_ret (ev_is (ev_op (ev_index (ev_var rfl) (i1 (e1.trans e2)) (sq_of ((e1.trans e2) _ _ L.hl)) hc) (ev_index (ev_var rfl) (i2 (e1.trans e2)) (sq_of ((e1.trans e2) _ _ L.hl)) hd) rv_I0) (w := .bl (barB rows bl c d)) ?_) fun H3 e3 => k.go ((e1.trans e2).trans e3)
      unfold barB
      rw [eb, Bool.true_and, if_pos hne]
      congr 1
      exact decide_eq_decide.mpr Int.ofNat_lt
end
end K29
set_option Elab.async false
set_option linter.all false
set_option maxRecDepth 100000
set_option maxHeartbeats 4000000
/-! _law_is_keep. -/
namespace K29
open PySem PySem.Spec PyProof.Rows L2 Evl
section
variable {P : Program} {w : World} {K : PySem.W.Frag} {mg : Str → Option Value} {base : Heap}
abbrev nsI : List Str := ["_law_ladder", "_law_below_here", "_law_laps", "_law_items", "_law_lead", "_law_barred", "_law_mate"]
theorem sc_law_is_keep : FnScope nsI ["_law_ladder", "_law_below_here", "_law_laps", "_law_items"] (defScope s_law_is_keep) := ⟨rfl, rfl, rfl, by decide +kernel, rfl, by decide +kernel, by decide +kernel⟩
def spIsKeep : Sp := fun vs H Q _ => ∃ (l b it : Addr) (laps : Int) (rows ks kk : List Str) (nd bl : Str → List Str) (al : Str → Addr) (c : Str → Int) (ad : Nat → Addr), vs = [.ref l, .ref b, .int laps, .ref it] ∧ Lw H l b rows ks bl al ∧ H it = some (.lst (refs ad kk.length)) ∧ CpsIn H ad (cpsOf c kk) ∧ KOk rows nd laps kk c ∧ (∀ r ∈ rows, ∀ p, p ∈ bl r ↔ Dep nd p r) ∧ kk.length ≤ 12 ∧ RetV (.bl true) H Q
theorem ok_law_is_keep (T : Tx K mg) : FnR P w K mg base CX0 2 (He.ga K "_law_is_keep") spIsKeep := by
  have G := ok_law_bars (P := P) (w := w) (base := base) T
  obtain ⟨_, D⟩ := T.d_law_bars
  have hnd := sc_law_is_keep.nd
  refine fnr T.d_law_is_keep sc_law_is_keep (fun _ _ _ _ _ _ us hl => match us, hl with | [_, _, _, _], _ => rfl) (fun vs H Q E h => by obtain ⟨l, b, it, laps, rows, ks, kk, nd, bl, al, c, ad, rfl, _⟩ := h; rfl) fun cdv A outer s H vs Q E hr h => ?_
  obtain ⟨l, b, it, laps, rows, ks, kk, nd, bl, al, c, ad, rfl, L, hit, hc, O, hbl, hkl, k⟩ := h
  have hu := hu_of hr
  refine ⟨_, pss_cons (ps_for PassesOwn.never rfl (pi_list (pv 3)) (pg_name (i := 4) hnd rfl (Or.inr rfl))
      (pss_cons (ps_setLc (i := 5) (own := [("_law_mate", 6)]) (g := gName 6) (tt := tB (tFn spLBars E0 (tCons (tVar 0) (tCons (tVar 1) (tCons (tVar 4) (tCons (tVar 6) tNil)))))) rfl hnd rfl rfl (sw_true rfl rfl rfl rfl) (pi_list (pv 3)) (blkOk_by (own := [("_law_mate", 6)]) (N := nsI) (sc := defScope s_law_is_keep) (by decide +kernel))
        (fun _ _ _ _ _ => pg_name (i := 6) hnd rfl (Or.inl rfl)) (fun _ _ _ _ _ => pts_one (pt_val (pe_fn G hr (by rfl) T.g_law_bars D.kp pass0 (pa_cons (pv 0) (pa_cons (pv 1) (pa_cons (pv 4) (pa_cons (pv 6) pa_nil))))))) (fun _ _ _ _ _ => pv 6))
      (pss_one (ps_if (PW.pt (pw_or (pt_not (pt_chain op_le op_le pe_int (pe_t (pv 4)) (pv 2))) (pw_or1 (pt_cmpR (op_neD hr.units) (pv 5) (pe_lst pa_nil) (nomark _))))) pss_dead pss_nil))))
    (pss_one (ps_ret (pe_cmpR op_eq (pe_callB call_lenD (by rfl) T.f_len PySem.boot_len (pa_cons (pe_callTy (call_dictP rfl) (by rfl) T.f_dict cs_dict (pa_cons (pv 3) pa_nil)) pa_nil)) (pe_callB call_len_seq (by rfl) T.f_len PySem.boot_len (pa_cons (pv 3) pa_nil)) (nomark _)))), ?_⟩
  have itx : ∀ {H1}, Ex H H1 → H1 it = some (.lst (refs ad kk.length)) := fun e => e _ _ hit
  have wk := walk_list (K := K) (a := it) (xs := refs ad kk.length)
  rw [refs_len] at wk
  have atk : ∀ {i : Nat} (hi : i < kk.length), (cpsOf c kk)[i]? = some (kk[i], c kk[i]) := fun hi => by unfold cpsOf; rw [List.getElem?_map, List.getElem?_eq_getElem hi]; rfl
  refine q_forWn wk (fun i σ' H' => Ex H H' ∧ ∃ x y z, σ' = [some (.ref l), some (.ref b), some (.int laps), some (.ref it), x, y, z]) (fun R k' => ⟨.ref it, rfl, it, rfl, ⟨_, sq_of hit⟩, k' H (Ex.refl H) ⟨Ex.refl H, _, _, _, rfl⟩⟩) (fun i σ' H' _ p => sq_of (itx p.1)) (fun i x σ' H0 H1 hi p y => ?_) fun σ' H1 p => ?_
  · obtain ⟨e1, x1, y1, z1, rfl⟩ := p
    obtain ⟨rfl, hx⟩ := y
    rw [refs_at hi] at hx
    cases hx
    have ri := atk hi
    have mi : kk[i] ∈ kk := List.getElem_mem hi
    change tSeq _ _ _ [some (.ref l), some (.ref b), some (.int laps), some (.ref it), some (.ref (ad i)), y1, z1] H1
    have el := el_lcL (K := K) (σ := [some (.ref l), some (.ref b), some (.int laps), some (.ref it), some (.ref (ad i)), y1, z1]) (H := H1) (a := it) (xs := refs ad kk.length) (tl := tVar 3) (j := 6) (vs := [6]) (t := tB (tFn spLBars E0 (tCons (tVar 0) (tCons (tVar 1) (tCons (tVar 4) (tCons (tVar 6) tNil)))))) (te := tVar 6) (fun _ => false) (fun _ => .non) (ev_var rfl) (sq_of (itx e1)) (by rw [refs_len]; omega) (fun x => rfl)
      (fun j x H3 e3 hx => by
        have hj : j < kk.length := by
          have := (List.getElem?_eq_some_iff.mp hx).1
          rw [refs_len] at this
          exact this
        rw [refs_at hj] at hx
        cases hx
        have mj : kk[j] ∈ kk := List.getElem_mem hj
        refine et_B (ev_is (ev_fn (vs := [.ref l, .ref b, .ref (ad i), .ref (ad j)]) (ea_cons (ev_var rfl) (ea_cons (ev_var rfl) (ea_cons (ev_var rfl) (ea_cons (ev_var rfl) ea_nil)))) fun H4 e4 Q k => ⟨l, b, ad i, ad j, rows, ks, bl, al, _, _, rfl, L.ex ((e1.trans e3).trans e4), ((e1.trans e3).trans e4) _ _ (hc i _ ri), ((e1.trans e3).trans e4) _ _ (hc j _ (atk hj)), O.sub _ mi, O.sub _ mj, k⟩) ?_)
        rw [O.nobar mi mj (hbl _ (O.sub _ mj))])
      (fun j x H3 e3 hx hf => by cases hf)
    have eg : given (refs ad kk.length).length (fun _ => false) (fun _ => V.non) = [] := by
      unfold given
      rw [List.filter_eq_nil_iff.mpr (fun _ _ h => by cases h)]
      rfl
    rw [eg] at el
    refine q_asgL el fun q H3 hq e3 h3 => ?_
    have rg := O.rng _ mi
    refine s_if (D := { nx := fun σ' H' => Ex H H' ∧ ∃ x y z, σ' = [some (.ref l), some (.ref b), some (.int laps), some (.ref it), x, y, z], rt := _, bk := _, ct := _ }) (b := false) (et_is (et_or (a := false) (et_is (et_not (et_test (b := true) (ev_is (ev_chain (i := 1) (j := c kk[i]) (l := laps) ev_c (ev_ixT (i := 1) (ev_var rfl) (st_of ((e1.trans e3) _ _ (hc i _ ri))) rfl) (ev_var rfl)) ?_))) rfl) fun _ => et_test (ev_is (ev_ne0L (ds := []) (ev_dat (ev_var rfl) (.lst (sq_of h3) .nil)) shaped_0L) rfl)) rfl) (fun h => by cases h) fun _ H4 e4 => ⟨(e1.trans e3).trans e4, _, _, _, rfl⟩
    rw [decide_eq_true rg.1, decide_eq_true rg.2]
    rfl
  · obtain ⟨e1, x1, y1, z1, rfl⟩ := p
    have ed : Ev (tCB (fun xs H Q => ∃ a kvs, xs = [V.ref a] ∧ H a = some (.dK kvs) ∧ Q (.int kvs.length) H) (tCons (tCB (fun xs H Q => ∃ (a : Addr) (ps : List Addr) (kvs : List (Key × V)), xs = [.ref a] ∧ SqL K H a (ps.map V.ref) ∧ Paired (fun p kv => SqT K H p [kV kv.1, kv.2]) ps kvs ∧ ∀ p, H p = none → Q (.ref p) (upd H p (.dK (mergeK [] kvs)))) (tCons (tVar 3) tNil)) tNil)) [some (.ref l), some (.ref b), some (.int laps), some (.ref it), x1, y1, z1] H1 (.int (kk.length : Nat)) := fun H2 e2 Q q => by
      refine ⟨.ref it, rfl, it, (List.range kk.length).map ad, dO kk fun r => .int (c r), rfl, ?_, ?_, fun p hp => ?_⟩
      · have := sq_of (K := K) (itx (e1.trans e2))
        unfold refs at this
        rw [List.map_map]
        exact this
      · have gen : ∀ (l : List Str) (f : Nat → Addr), (∀ i r, l[i]? = some r → H2 (f i) = some (.tup [.str r, .int (c r)])) → Paired (fun p kv => SqT K H2 p [kV kv.1, kv.2]) ((List.range l.length).map f) (dO l fun r => .int (c r)) := by
          intro l
          induction l with
          | nil => exact fun f _ => .nil
          | cons r l ih =>
            intro f hf
            rw [List.length_cons, List.range_succ_eq_map, List.map_cons, List.map_map]
            exact .cons (st_of (hf 0 r rfl)) (ih (f ∘ Nat.succ) fun i r' hr' => hf (i + 1) r' (by simpa using hr'))
        refine gen kk ad fun i r hr => (e1.trans e2) _ _ (hc i (r, c r) ?_)
        unfold cpsOf
        rw [List.getElem?_map, hr]
        rfl
      · have em : mergeK [] (dO kk fun r => V.int (c r)) = dO kk fun r => .int (c r) := mergeK_dO _ kk [] (by simpa using O.nod)
        rw [em]
        refine ⟨p, _, rfl, upd_same, ?_⟩
        rw [dO_len]
        exact q _ (Ex.new hp)
    refine s_ret (v := .bl true) (ev_is (ev_eq ed (ev_lenS (ev_var rfl) (sq_of (itx e1))) rfl) ?_) fun H2 e2 => k.go (e1.trans e2)
    rw [refs_len, decide_eq_true rfl]
end
end K29
set_option Elab.async false
set_option linter.all false
set_option maxRecDepth 100000
set_option maxHeartbeats 4000000
/-! _law_keeps. -/
namespace K29
open PySem PySem.Spec PyProof.Rows L2 Evl
/-- copies none of which bars another one are the data of a keep -/
theorem keeps_ok {rows : List Str} {nd bl : Str → List Str} {laps : Int} (D : Sht rows nd) (hbl : ∀ s ∈ rows, ∀ p, p ∈ bl s ↔ Dep nd p s) {cs : List (Str × Int)} (hcs : ∀ c ∈ cs, c.1 ∈ rows ∧ 1 ≤ c.2 ∧ c.2 ≤ laps) (nob : ∀ c ∈ cs, ∀ d ∈ cs, barB rows bl c d = false) (hn : cs.Nodup) :
    ∃ ks c, cs = cpsOf c ks ∧ KOk rows nd laps ks c := by
  have inj : ∀ c ∈ cs, ∀ d ∈ cs, c.1 = d.1 → c = d := fun c hc d hd e => by
    have h1 := nob c hc d hd
    have h2 := nob d hd c hc
    unfold barB at h1 h2
    rw [decide_eq_true e, Bool.true_or, Bool.true_and] at h1
    rw [decide_eq_true e.symm, Bool.true_or, Bool.true_and] at h2
    have e2 : c.2 = d.2 := by
      by_cases z : c.2 = d.2
      · exact z
      · rw [if_neg z] at h1
        rw [if_neg (fun y => z y.symm)] at h2
        have h1' := of_decide_eq_false h1
        have h2' := of_decide_eq_false h2
        omega
    exact Prod.ext e e2
  let c : Str → Int := fun r => ((cs.find? fun d => decide (d.1 = r)).map (·.2)).getD 0
  have hc : ∀ d ∈ cs, c d.1 = d.2 := fun d hd => by
    show ((cs.find? fun e => decide (e.1 = d.1)).map (·.2)).getD 0 = d.2
    cases h : cs.find? fun e => decide (e.1 = d.1) with
    | none =>
      have := List.find?_eq_none.mp h d hd
      simp at this
    | some e =>
      have h1 := List.mem_of_find?_eq_some h
      have h2 := of_decide_eq_true (List.find?_some (p := fun e : Str × Int => decide (e.1 = d.1)) h)
      rw [inj e h1 d hd h2]
      rfl
  have ecs : cs = cpsOf c (cs.map (·.1)) := by
    unfold cpsOf
    rw [List.map_map]
    conv => lhs; rw [← List.map_id cs]
    refine List.map_congr_left fun d hd => ?_
    show d = (d.1, c d.1)
    rw [hc d hd]
  refine ⟨cs.map (·.1), c, ecs, ?_, fun r hr => ?_, fun r hr => ?_, fun r hr s hs hd => ?_⟩
  · rw [List.nodup_iff_pairwise_ne, List.pairwise_map]
    exact (List.nodup_iff_pairwise_ne.mp hn).imp_of_mem fun ha hb hne e => hne (inj _ ha _ hb e)
  · obtain ⟨d, hd, rfl⟩ := List.mem_map.mp hr
    exact (hcs d hd).1
  · obtain ⟨d, hd, rfl⟩ := List.mem_map.mp hr
    rw [hc d hd]
    exact (hcs d hd).2
  · obtain ⟨x, hx, rfl⟩ := List.mem_map.mp hr
    obtain ⟨y, hy, rfl⟩ := List.mem_map.mp hs
    rw [hc x hx, hc y hy]
    have h1 := nob x hx y hy
    unfold barB at h1
    rw [decide_eq_true ((hbl y.1 (hcs y hy).1 x.1).mpr hd), Bool.or_true, Bool.true_and] at h1
    by_cases z : x.2 = y.2
    · rw [if_pos z] at h1
      have h1' := of_decide_eq_false h1
      have hne : ix rows x.1 ≠ ix rows y.1 := fun e => D.irr hd (hcs y hy).1 (ix_inj (hcs x hx).1 (hcs y hy).1 e)
      right
      exact ⟨z, by omega⟩
    · rw [if_neg z] at h1
      have h1' := of_decide_eq_false h1
      left
      omega
abbrev Cp := Addr × (Str × Int)
section
variable {K : PySem.W.Frag} {σ : L2.St} {H H' : Hp} {te tl : TE} {tt : TT} {Q : VK}
theorem el_P {a : Addr} {xs : List Cp} {j : Nat} {vs : List Nat} (f : Cp → Bool) (h : Ev tl σ H (.ref a)) (hx : H a = some (.lst (xs.map fun x => V.ref x.1))) (hz : xs.length ≤ 40000) (hw : ∀ x, wipe ((wipe σ vs).set j (some x)) vs = wipe σ vs)
    (ht : ∀ x H1, Ex H H1 → x ∈ xs → EvT tt ((wipe σ vs).set j (some (.ref x.1))) H1 (f x)) (hj : ∀ (x : Cp) H1, Ev te ((wipe σ vs).set j (some (.ref x.1))) H1 (.ref x.1)) :
    EvL (tLc (iList K tl) (gName j) tt te vs) σ H ((xs.filter f).map fun x => V.ref x.1) := by
  have el := el_lcL (K := K) (σ := σ) (H := H) (a := a) (xs := xs.map fun x => V.ref x.1) (tl := tl) (j := j) (vs := vs) (t := tt) (te := te) (fun i => f (xs[i]?.getD (0, Str.empty, 0))) (fun i => V.ref (xs[i]?.getD (0, Str.empty, 0)).1) h (sq_of hx) (by rw [List.length_map]; exact hz) hw
    (fun i x H1 e hi => by
      rw [List.getElem?_map] at hi
      cases hq : xs[i]? with
      | none => rw [hq] at hi; cases hi
      | some y =>
        rw [hq] at hi
        cases hi
        exact ht y H1 e (List.mem_of_getElem? hq))
    (fun i x H1 e hi hf => by
      rw [List.getElem?_map] at hi
      cases hq : xs[i]? with
      | none => rw [hq] at hi; cases hi
      | some y =>
        rw [hq] at hi
        cases hi
        exact hj y H1)
  rw [List.length_map] at el
  have eg := given_by f (fun x : Cp => V.ref x.1) (0, Str.empty, 0) xs
  rw [eg] at el
  exact el
end
section
variable {P : Program} {w : World} {K : PySem.W.Frag} {mg : Str → Option Value} {base : Heap}
abbrev nsK2 : List Str := ["_law_pen_here", "_law_ladder", "_law_below_here", "_law_laps", "_law_left", "_law_number", "_law_title", "_law_found", "_law_turn", "_law_lead", "_law_pairs", "_law_mate"]
theorem sc_law_keeps : FnScope nsK2 ["_law_pen_here", "_law_ladder", "_law_below_here", "_law_laps"] (defScope s_law_keeps) := ⟨rfl, rfl, rfl, by decide +kernel, rfl, by decide +kernel, by decide +kernel⟩
/-- these copies in a list -/
structure CpL (H : Hp) (a : Addr) (xs : List Cp) : Prop where
  hl : H a = some (.lst (xs.map fun x => V.ref x.1))
  hc : ∀ x ∈ xs, CpAt H x.1 x.2
theorem CpL.ex {H H' : Hp} {a : Addr} {xs : List Cp} (h : CpL H a xs) (e : Ex H H') : CpL H' a xs := ⟨e _ _ h.hl, fun x hx => e _ _ (h.hc x hx)⟩
theorem CpL.pop {H : Hp} {L : Addr} {lf : List Cp} {j : Nat} (h : CpL H L lf) : CpL (upd H L (.lst ((lf.map fun x => V.ref x.1).eraseIdx j))) L (lf.eraseIdx j) :=
  ⟨by rw [upd_same, map_erase], fun x hx => by
    have := h.hc x (List.mem_of_mem_eraseIdx hx)
    unfold CpAt
    rw [upd_ne fun z => by unfold CpAt at this; rw [z, h.hl] at this; cases this]
    exact this⟩
theorem CpL.exB {H H' : Hp} {a p c : Addr} {t : Nat} {xs : List Cp} (h : CpL H a xs) (b : ExB p H H') (N : Pen H p c t) (ne : a ≠ p) : CpL H' a xs := by
  obtain ⟨ns, u, g, n, _⟩ := N
  exact ⟨b _ _ ne h.hl, fun x hx => b _ _ (fun z => by have := h.hc x hx; unfold CpAt at this; rw [z, n.hp] at this; cases this) (h.hc x hx)⟩
theorem CpL.mut {H : Hp} {a L : Addr} {xs : List Cp} {zs : List V} {o : HO} (h : CpL H a xs) (hL : H L = some (.lst zs)) (ne : a ≠ L) : CpL (upd H L o) a xs :=
  ⟨by rw [upd_ne ne]; exact h.hl, fun x hx => by
    unfold CpAt
    rw [upd_ne fun z => by have := h.hc x hx; unfold CpAt at this; rw [z, hL] at this; cases this]
    exact h.hc x hx⟩
theorem Lw.exB {H H' : Hp} {l b p c : Addr} {t : Nat} {rows ks : List Str} {bl : Str → List Str} {al : Str → Addr} (h : Lw H l b rows ks bl al) (e : ExB p H H') (N : Pen H p c t) (lp : l ≠ p) (alp : ∀ r ∈ ks, al r ≠ p) : Lw H' l b rows ks bl al := by
  obtain ⟨ns, u, g, n, _⟩ := N
  exact ⟨e _ _ lp h.hl, ⟨e _ _ (fun z => by have := h.hb.hd; rw [z, n.hp] at this; cases this) h.hb.hd, fun r hr => e _ _ (alp r hr) (h.hb.ha r hr)⟩, h.hk⟩
def spLKeeps : Sp := fun vs H Q _ => ∃ (p c l b : Addr) (t laps : Nat) (rows ks : List Str) (nd bl : Str → List Str) (al : Str → Addr), vs = [.ref p, .ref l, .ref b, .int laps] ∧ Pen H p c t ∧ t + 100 < 10000 ∧ Lw H l b rows ks bl al ∧ l ≠ p ∧ (∀ r ∈ ks, al r ≠ p) ∧ Sht rows nd ∧ (∀ r ∈ rows, ∀ p, p ∈ bl r ↔ Dep nd p r) ∧ rows.length * laps ≤ 40 ∧ laps ≤ 40 ∧
  ∀ (f : Addr) (xs : List Cp) H2, ExB p H H2 → Pen H2 p c (t + 90) → CpL H2 f xs → H f = none → (∀ x ∈ xs, x.2.1 ∈ rows ∧ 1 ≤ x.2.2 ∧ x.2.2 ≤ (laps : Int)) → (xs.map (·.2)).Nodup → (∀ x ∈ xs, ∀ y ∈ xs, barB rows bl x.2 y.2 = false) → Q (.ref f) H2
theorem ok_law_keeps (T : Tx K mg) : FnR P w K mg base CX0 2 (He.ga K "_law_keeps") spLKeeps := by
  have G := ok_law_bars (P := P) (w := w) (base := base) T
  have G2 := ok_law_draw (P := P) (w := w) (base := base) T
  obtain ⟨_, D1⟩ := T.d_law_bars
  obtain ⟨_, D2⟩ := T.d_law_draw
  have hnd := sc_law_keeps.nd
  refine fnr T.d_law_keeps sc_law_keeps (fun _ _ _ _ _ _ us hl => match us, hl with | [_, _, _, _], _ => rfl) (fun vs H Q E h => by obtain ⟨p, c, l, b, t, laps, rows, ks, nd, bl, al, rfl, _⟩ := h; rfl) fun cdv A outer s H vs Q E hr h => ?_
  obtain ⟨p, c, l, b, t, laps, rows, ks, nd, bl, al, rfl, N, ht, L, lp, alp, D, hbl, h40, l40, k⟩ := h
  refine ⟨_, pss_cons (ps_asg (pe_lst pa_nil) (pg_name (i := 4) hnd rfl (Or.inl rfl)))
    (pss_cons (ps_for PassesOwn.never rfl (pi_range2 (by rfl) T.f_range (pa_cons pe_int (pa_cons (pe_op op_add (pv 3) pe_int) pa_nil))) (pg_name (i := 5) hnd rfl (Or.inr rfl))
      (pss_one (ps_expr (pe_bm PySem.F.plainAttrs_list PySem.F.slot_list_extend PySem.F.type_list_extend mt_extend (pv 4) (pa_cons (pe_lc (own := [("_law_title", 6)]) (g := gName 6) (te := tTup (tCons (tVar 6) (tCons (tVar 5) tNil))) rfl hnd (pi_list (pv 1)) (blkOk_by (own := [("_law_title", 6)]) (N := nsK2) (sc := defScope s_law_keeps) (by decide +kernel))
        (fun _ _ _ _ _ => pg_name (i := 6) hnd rfl (Or.inl rfl)) (fun _ _ _ _ _ => pts_nil) (fun _ _ _ _ _ => pe_tup (pa_cons (pv 6) (pa_cons (pv 5) pa_nil)))) pa_nil)))))
    (pss_cons (ps_asg (pe_lst pa_nil) (pg_name (i := 7) hnd rfl (Or.inl rfl)))
    (pss_cons (ps_for PassesOwn.never rfl (pi_range1 (by rfl) T.f_range (pa_cons (pe_callB call_len_seq (by rfl) T.f_len PySem.boot_len (pa_cons (pv 4) pa_nil)) pa_nil)) (pg_name (i := 8) hnd rfl (Or.inl rfl))
      (pss_cons (ps_asg (pe_bm PySem.F.plainAttrs_list PySem.F.slot_list_pop PySem.F.type_list_pop mt_popAt (pv 4) (pa_cons (pe_fn G2 hr (by rfl) T.g_law_draw D2.kp pass0 (pa_cons (pv 0) (pa_cons (pe_callB call_len_seq (by rfl) T.f_len PySem.boot_len (pa_cons (pv 4) pa_nil)) pa_nil))) pa_nil)) (pg_name (i := 9) hnd rfl (Or.inr rfl)))
      (pss_cons (ps_setLc (i := 10) (own := [("_law_mate", 11)]) (g := gName 11) (tt := tB (tFn spLBars E0 (tCons (tVar 1) (tCons (tVar 2) (tCons (tVar 9) (tCons (tVar 11) tNil)))))) rfl hnd rfl rfl (sw_true rfl rfl rfl rfl) (pi_list (pv 7)) (blkOk_by (own := [("_law_mate", 11)]) (N := nsK2) (sc := defScope s_law_keeps) (by decide +kernel))
        (fun _ _ _ _ _ => pg_name (i := 11) hnd rfl (Or.inl rfl)) (fun _ _ _ _ _ => pts_one (pt_val (pe_fn G hr (by rfl) T.g_law_bars D1.kp pass0 (pa_cons (pv 1) (pa_cons (pv 2) (pa_cons (pv 9) (pa_cons (pv 11) pa_nil))))))) (fun _ _ _ _ _ => pv 11))
      (pss_cons (ps_asg (pe_op op_cat (pv 10) (pe_lc (own := [("_law_mate", 11)]) (g := gName 11) (tt := tB (tFn spLBars E0 (tCons (tVar 1) (tCons (tVar 2) (tCons (tVar 11) (tCons (tVar 9) tNil)))))) rfl hnd (pi_list (pv 7)) (blkOk_by (own := [("_law_mate", 11)]) (N := nsK2) (sc := defScope s_law_keeps) (by decide +kernel))
        (fun _ _ _ _ _ => pg_name (i := 11) hnd rfl (Or.inl rfl)) (fun _ _ _ _ _ => pts_one (pt_val (pe_fn G hr (by rfl) T.g_law_bars D1.kp pass0 (pa_cons (pv 1) (pa_cons (pv 2) (pa_cons (pv 11) (pa_cons (pv 9) pa_nil))))))) (fun _ _ _ _ _ => pv 11))) (pg_name (i := 10) hnd rfl (Or.inl rfl)))
      (pss_one (ps_if (PW.pt (pw_and (pt_cmpR (op_eqD hr.units) (pv 10) (pe_lst pa_nil) (nomark _)) (pw_and1 (pt_cmpR op_gt (pe_fn G2 hr (by rfl) T.g_law_draw D2.kp pass0 (pa_cons (pv 0) (pa_cons pe_int pa_nil))) pe_int (nomark _)))))
        (pss_one (ps_expr (pe_bm PySem.F.plainAttrs_list PySem.F.slot_list_append PySem.F.type_list_append mt_append (pv 7) (pa_cons (pv 9) pa_nil)))) pss_nil)))))
    )
    (pss_one (ps_ret (pv 7)))))), ?_⟩
  have rl := D.len
  refine q_asgL el_nil fun Lf H1 hL e1 h1 => ?_
  have nL := N.new hL
  change tSeq _ _ _ [some (.ref p), some (.ref l), some (.ref b), some (.int (laps : Int)), some (.ref Lf), none, none, none, none, none, none, none] H1
  have en : ((laps : Int) + 1 - 1).toNat = laps := by omega
  refine q_forWn (walk_range (lo := 1) (n := laps)) (fun i σ' H' => (∃ x y, σ' = [some (.ref p), some (.ref l), some (.ref b), some (.int (laps : Int)), some (.ref Lf), x, y, none, none, none, none, none]) ∧ Ex H H' ∧ ∃ xs : List Cp, CpL H' Lf xs ∧ xs.length = i * rows.length ∧ (xs.map (·.2)).Nodup ∧ ∀ x ∈ xs, x.2.1 ∈ rows ∧ 1 ≤ x.2.2 ∧ x.2.2 ≤ (i : Int))
    (fun R k' => ?_) (fun _ _ _ _ _ => trivial) (fun i x σ' H2 H3 hi pv y => ?_) fun σ' H2 pv => ?_
  · refine ⟨.int (laps : Int), rfl, (laps : Int), 1, rfl, rfl, 1, (laps : Int) + 1, rfl, by omega, ?_⟩
    rw [en]
    exact k' _ (Ex.refl _) ⟨⟨_, _, rfl⟩, e1, [], ⟨h1, (fun x hx => by cases hx)⟩, by simp, .nil, fun x hx => by cases hx⟩
  · obtain ⟨⟨x1, y1, rfl⟩, eH, xs, cl, xl, xn, xr⟩ := pv
    obtain ⟨rfl, rfl⟩ := y
    have hxt : ∀ {H'}, Ex H3 H' → H' l = some (.lst (rows.map V.str)) := fun e => e _ _ (eH _ _ L.hl)
    refine x_drop1 ⟨.ref Lf, rfl, .inl ⟨rfl, _, sq_of cl.hl⟩, ?_⟩
    have ec := ec_L (K := K) (σ := [some (.ref p), some (.ref l), some (.ref b), some (.int (laps : Int)), some (.ref Lf), some (.int (1 + (i : Nat))), y1, none, none, none, none, none]) (H := H3) (a := l) (xs := rows) (j := 6) (vs := [6]) (tl := tVar 1) (tt := tYes) (te := tTup (tCons (tVar 6) (tCons (tVar 5) tNil))) (fun _ => true) (fun r => (r, (1 : Int) + (i : Nat))) (ev_var rfl) (sq_of (hxt (Ex.refl H3))) (by omega) (fun x => rfl)
      (fun r H1 e hr => fun H2 e2 Q k => k H2 (Ex.refl H2)) fun r H1 e hr _ => eu_tup (ea_cons (ev_var rfl) (ea_cons (ev_var rfl) ea_nil)) (by show 2 ≤ 100000; decide)
    rw [List.filter_eq_self.mpr (fun _ _ => rfl)] at ec
    refine ec H3 (Ex.refl H3) _ fun q H4 ad hq e4 h4 hc4 => ?_
    rw [List.length_map] at h4
    have hLf4 := e4 _ _ cl.hl
    have il : (i + 1) * rows.length ≤ 40 := Nat.le_trans (by rw [Nat.mul_comm]; exact Nat.mul_le_mul_left _ hi) h40
    rw [Nat.add_mul, Nat.one_mul] at il
    refine ⟨Lf, q, _, _, rfl, rfl, hLf4, h4, sz_of (by rw [List.length_map, refs_len]; omega), ?_⟩
    let ys : List Cp := (List.range rows.length).map fun j => (ad j, (rows[j]?.getD Str.empty, (1 : Int) + (i : Nat)))
    have ysl : ys.length = rows.length := by rw [List.length_map, List.length_range]
    have ysr : refs ad rows.length = ys.map fun x => V.ref x.1 := by
      unfold refs
      rw [List.map_map]
      rfl
    have ys2 : ys.map (·.2) = rows.map fun r => (r, (1 : Int) + (i : Nat)) := by
      rw [List.map_map]
      refine List.ext_getElem (by simp) fun j g1 g2 => ?_
      have hj : j < rows.length := by simpa using g2
      simp [hj]
    have ysm : ∀ y ∈ ys, y.2.1 ∈ rows ∧ y.2.2 = (1 : Int) + (i : Nat) ∧ CpAt H4 y.1 y.2 := fun y hy => by
      obtain ⟨j, hj, rfl⟩ := List.mem_map.mp hy
      have hj' := List.mem_range.mp hj
      rw [List.getElem?_eq_getElem hj']
      refine ⟨List.getElem_mem hj', rfl, hc4 j _ ?_⟩
      rw [List.getElem?_map, List.getElem?_eq_getElem hj']
      rfl
    have cp4 : ∀ x ∈ xs ++ ys, CpAt H4 x.1 x.2 := fun x hx => (List.mem_append.mp hx).elim (fun h => e4 _ _ (cl.hc x h)) fun h => (ysm x h).2.2
    refine ⟨⟨_, _, rfl⟩, Ex.mut (eH.trans e4) hL, xs ++ ys, ⟨?_, fun x hx => ?_⟩, ?_, ?_, fun x hx => ?_⟩
    · rw [upd_same, ysr, ← List.map_append]
    · unfold CpAt
      rw [upd_ne fun z => by have := cp4 x hx; unfold CpAt at this; rw [z, hLf4] at this; cases this]
      exact cp4 x hx
    · rw [List.length_append, ysl, xl, Nat.add_mul, Nat.one_mul]
    · rw [List.map_append]
      refine List.nodup_append.mpr ⟨xn, ?_, fun a ha d hd => ?_⟩
      · rw [ys2, List.nodup_iff_pairwise_ne, List.pairwise_map]
        exact (List.nodup_iff_pairwise_ne.mp D.nod).imp fun hne e => hne (Prod.mk.inj e).1
      · obtain ⟨x, hx, rfl⟩ := List.mem_map.mp ha
        obtain ⟨y, hy, rfl⟩ := List.mem_map.mp hd
        intro e
        have h1 := (xr x hx).2.2
        have h2 := (ysm y hy).2.1
        rw [e] at h1
        omega
    · rcases List.mem_append.mp hx with h | h
      · obtain ⟨a1, a2, a3⟩ := xr x h
        exact ⟨a1, a2, by omega⟩
      · obtain ⟨a1, a2, _⟩ := ysm x h
        exact ⟨a1, by omega, by omega⟩
  obtain ⟨⟨x1, y1, rfl⟩, eH, xs, cl, xl, xn, xr⟩ := pv
  refine q_asgL el_nil fun F H3 hF e3 h3 => ?_
  have fF : H F = none := fresh_back eH hF
  have nF := N.new fF
  have FL : F ≠ Lf := fun z => by rw [z, cl.hl] at hF; cases hF
  have cl3 := cl.ex e3
  have e03 := eH.trans e3
  have N3 := N.ex e03
  have xl40 : xs.length ≤ 40 := by rw [xl, Nat.mul_comm]; exact h40
  change tSeq _ _ _ [some (.ref p), some (.ref l), some (.ref b), some (.int (laps : Int)), some (.ref Lf), x1, y1, some (.ref F), none, none, none, none] H3
  refine q_forWn (walk_range (lo := 0) (n := xs.length)) (fun i σ' H' => (∃ z w u v, σ' = [some (.ref p), some (.ref l), some (.ref b), some (.int (laps : Int)), some (.ref Lf), x1, y1, some (.ref F), z, w, u, v]) ∧ ∃ lf fd : List Cp, ExB p H H' ∧ Pen H' p c (t + 2 * i) ∧ CpL H' Lf lf ∧ CpL H' F fd ∧ lf.length + i = xs.length ∧ fd.length ≤ i ∧ ((lf ++ fd).map (·.2)).Nodup ∧ (∀ x ∈ lf ++ fd, x.2.1 ∈ rows ∧ 1 ≤ x.2.2 ∧ x.2.2 ≤ (laps : Int)) ∧ ∀ x ∈ fd, ∀ y ∈ fd, barB rows bl x.2 y.2 = false)
    (fun R k' => ?_) (fun _ _ _ _ _ => trivial) (fun i x σ' H4 H5 hi pv y => ?_) fun σ' H4 pv => ?_
  · refine ⟨.ref Lf, rfl, Lf, _, rfl, .inl (sq_of cl3.hl), ((xs.map fun x => V.ref x.1).length : Int), rfl, by rw [List.length_map]; omega, by rw [List.length_map]; omega, ?_⟩
    rw [Int.toNat_natCast, List.length_map]
    exact k' _ (Ex.refl _) ⟨⟨_, _, _, _, rfl⟩, xs, [], ExB.ex e03, N3, cl3, ⟨h3, (fun x hx => by cases hx)⟩, rfl, Nat.le_refl 0, by rw [List.append_nil]; exact xn, by rw [List.append_nil]; exact xr, fun x hx => by cases hx⟩
  · obtain ⟨⟨z, w', u, v, rfl⟩, lf, fd, c1, c2, c3, c4, c5, c6, c7, c8, c9⟩ := pv
    obtain ⟨rfl, rfl⟩ := y
    refine x_asg (x_pop (L := Lf) (ev_var rfl) (ev_var rfl) c3.hl nL.1 (by rw [List.length_map]; omega) (by rw [List.length_map]; omega) c2 (by omega) fun j yv H6 hj b6 N6 h6 => ?_)
    obtain ⟨x, hx, rfl⟩ : ∃ x, lf[j]? = some x ∧ yv = V.ref x.1 := by
      rw [List.getElem?_map] at hj
      cases hq : lf[j]? with
      | none => rw [hq] at hj; cases hj
      | some x => rw [hq] at hj; exact ⟨x, rfl, (Option.some.inj hj).symm⟩
    have hjl : j < lf.length := (List.getElem?_eq_some_iff.mp hx).1
    have hxm : x ∈ lf := List.mem_of_getElem? hx
    have d3 := c3.exB b6 c2 nL.1
    have d4 := c4.exB b6 c2 nF.1
    have p3 := d3.pop (j := j)
    have p4 : CpL (upd H6 Lf (.lst ((lf.map fun x => V.ref x.1).eraseIdx j))) F fd := d4.mut d3.hl FL
    have px : CpAt (upd H6 Lf (.lst ((lf.map fun x => V.ref x.1).eraseIdx j))) x.1 x.2 := by
      unfold CpAt
      rw [upd_ne fun z => by have := d3.hc x hxm; unfold CpAt at this; rw [z, d3.hl] at this; cases this]
      exact d3.hc x hxm
    have b7 : ExB p H (upd H6 Lf (.lst ((lf.map fun x => V.ref x.1).eraseIdx j))) := (c1.trans b6).mut hL
    have N7 : Pen (upd H6 Lf (.lst ((lf.map fun x => V.ref x.1).eraseIdx j))) p c (t + 2 * i + 1) := N6.mut nL.1 nL.2
    have L7 := L.exB b7 N lp alp
    generalize upd H6 Lf (.lst ((lf.map fun x => V.ref x.1).eraseIdx j)) = H7 at *
    have xr := c8 x (List.mem_append_left _ hxm)
    change tSeq _ _ _ [some (.ref p), some (.ref l), some (.ref b), some (.int (laps : Int)), some (.ref Lf), x1, y1, some (.ref F), some (.int (0 + (i : Nat))), some (.ref x.1), u, v] H7
    have bars : ∀ {σ : L2.St} {H1 : Hp} (s1 s2 : Nat) (q r : Cp), Ex H7 H1 → σ[1]? = some (some (.ref l)) → σ[2]? = some (some (.ref b)) → σ[s1]? = some (some (.ref q.1)) → σ[s2]? = some (some (.ref r.1)) → CpAt H7 q.1 q.2 → CpAt H7 r.1 r.2 → q.2.1 ∈ rows → r.2.1 ∈ rows → EvT (tB (tFn spLBars E0 (tCons (tVar 1) (tCons (tVar 2) (tCons (tVar s1) (tCons (tVar s2) tNil)))))) σ H1 (barB rows bl q.2 r.2) := fun s1 s2 q r e g1 g2 g3 g4 g5 g6 g7 g8 =>
      et_B (ev_fn (vs := [.ref l, .ref b, .ref q.1, .ref r.1]) (ea_cons (ev_var g1) (ea_cons (ev_var g2) (ea_cons (ev_var g3) (ea_cons (ev_var g4) ea_nil)))) fun H9 e9 Q k => ⟨l, b, q.1, r.1, rows, ks, bl, al, q.2, r.2, rfl, L7.ex (e.trans e9), (e.trans e9) _ _ g5, (e.trans e9) _ _ g6, g7, g8, k⟩)
    refine q_asgL (el_P (K := K) (a := F) (xs := fd) (fun y => barB rows bl x.2 y.2) (ev_var rfl) p4.hl (by omega) (fun x => rfl) (fun y H1 e hy => bars 9 11 x y e rfl rfl rfl rfl px (p4.hc y hy) xr.1 (c8 y (List.mem_append_right _ hy)).1) fun y H1 => ev_var rfl) fun P1 H8 _ e8 h8 => ?_
    refine q_asgL (el_cat (ev_var rfl) h8 (el_P (K := K) (a := F) (xs := fd) (fun y => barB rows bl y.2 x.2) (ev_var rfl) (e8 _ _ p4.hl) (by omega) (fun x => rfl) (fun y H1 e hy => bars 11 9 y x (e8.trans e) rfl rfl rfl rfl (p4.hc y hy) px (c8 y (List.mem_append_right _ hy)).1 xr.1) fun y H1 => ev_var rfl) ?_) fun P2 H9 _ e9 h9 => ?_
    · have l1 := List.length_filter_le (fun y : Cp => barB rows bl x.2 y.2) fd
      have l2 := List.length_filter_le (fun y : Cp => barB rows bl y.2 x.2) fd
      rw [List.length_map, List.length_map]
      omega
    rw [← List.map_append] at h9
    obtain ⟨prs, hprs⟩ : ∃ prs : List Cp, prs = fd.filter (fun y => barB rows bl x.2 y.2) ++ fd.filter (fun y => barB rows bl y.2 x.2) := ⟨_, rfl⟩
    rw [← hprs] at h9
    have prm : ∀ y ∈ prs, y ∈ fd := fun y hy => by
      rw [hprs] at hy
      exact (List.mem_append.mp hy).elim (fun h => (List.mem_filter.mp h).1) fun h => (List.mem_filter.mp h).1
    have e79 := e8.trans e9
    change tIfS _ _ _ _ [some (.ref p), some (.ref l), some (.ref b), some (.int (laps : Int)), some (.ref Lf), x1, y1, some (.ref F), some (.int (0 + (i : Nat))), some (.ref x.1), some (.ref P2), v] H9
    have pm : (lf ++ fd).Perm (lf.eraseIdx j ++ (fd ++ [x])) := by
      have h1 : (lf ++ fd).Perm (x :: (lf.eraseIdx j ++ fd)) := (erase_perm hx).append_right fd
      have h2 := List.perm_append_singleton x (lf.eraseIdx j ++ fd)
      rw [List.append_assoc] at h2
      exact h1.trans h2.symm
    have c7p : ((lf ++ fd).map (·.2)).Nodup ↔ ((lf.eraseIdx j ++ (fd ++ [x])).map (·.2)).Nodup := (pm.map _).nodup_iff
    have stay : ∀ {H'} (fd' : List Cp), ExB p H H' → Pen H' p c (t + 2 * (i + 1)) → CpL H' Lf (lf.eraseIdx j) → CpL H' F fd' → (fd' = fd ∨ (fd' = fd ++ [x] ∧ prs = [])) → ∃ lf2 fd2 : List Cp, ExB p H H' ∧ Pen H' p c (t + 2 * (i + 1)) ∧ CpL H' Lf lf2 ∧ CpL H' F fd2 ∧ lf2.length + (i + 1) = xs.length ∧ fd2.length ≤ i + 1 ∧ ((lf2 ++ fd2).map (·.2)).Nodup ∧ (∀ x ∈ lf2 ++ fd2, x.2.1 ∈ rows ∧ 1 ≤ x.2.2 ∧ x.2.2 ≤ (laps : Int)) ∧ ∀ x ∈ fd2, ∀ y ∈ fd2, barB rows bl x.2 y.2 = false := fun fd' f1 f2 f3 f4 f5 => by
      have el := erase_len hjl
      refine ⟨lf.eraseIdx j, fd', f1, f2, f3, f4, by omega, ?_, ?_, ?_, ?_⟩
      · rcases f5 with rfl | ⟨rfl, _⟩
        · omega
        · rw [List.length_append, List.length_singleton]; omega
      · rcases f5 with rfl | ⟨rfl, _⟩
        · exact ((c7p.mp c7).sublist ((List.Sublist.append (List.Sublist.refl _) (List.sublist_append_left _ _)).map _))
        · exact c7p.mp c7
      · intro y hy
        refine c8 y (pm.mem_iff.mpr ?_)
        rcases f5 with rfl | ⟨rfl, _⟩
        · rcases List.mem_append.mp hy with h | h
          · exact List.mem_append_left _ h
          · exact List.mem_append_right _ (List.mem_append_left _ h)
        · exact hy
      · rcases f5 with rfl | ⟨rfl, hp0⟩
        · exact c9
        · rw [hprs] at hp0
          obtain ⟨ha, hb⟩ := List.append_eq_nil_iff.mp hp0
          have hA : ∀ y ∈ fd, barB rows bl x.2 y.2 = false := fun y hy => by
            cases h : barB rows bl x.2 y.2 with
            | false => rfl
            | true => exact absurd h (List.filter_eq_nil_iff.mp ha y hy)
          have hB : ∀ y ∈ fd, barB rows bl y.2 x.2 = false := fun y hy => by
            cases h : barB rows bl y.2 x.2 with
            | false => rfl
            | true => exact absurd h (List.filter_eq_nil_iff.mp hb y hy)
          have hX : barB rows bl x.2 x.2 = false := by
            unfold barB
            rw [if_pos rfl, decide_eq_false (Nat.lt_irrefl _), Bool.and_false]
          intro y hy z hz
          rcases List.mem_append.mp hy with h | h
          · rcases List.mem_append.mp hz with g | g
            · exact c9 y h z g
            · rw [List.mem_singleton.mp g]
              exact hB y h
          · rw [List.mem_singleton.mp h]
            rcases List.mem_append.mp hz with g | g
            · exact hA z g
            · rw [List.mem_singleton.mp g]
              exact hX
    have q3 := p3.ex e79
    have q4 := p4.ex e79
    have rok : ∀ y ∈ prs.map (·.2), PyData.strOk y.1 = true := fun y hy => by
      obtain ⟨q, hq, rfl⟩ := List.mem_map.mp hy
      exact nm_ok (D.nam _ (c8 q (List.mem_append_right _ (prm q hq))).1)
    have dpa : DpAll K H9 (prs.map fun x => V.ref x.1) ((prs.map (·.2)).map cpD) := by
      rw [List.map_map]
      exact dpAll_map _ _ prs fun y hy => dp_cp (q4.hc y (prm y hy))
    unfold tIfS tAnd
    refine et_test (ev_eq0L (K := K) (ds := (prs.map (·.2)).map cpD) (ev_dat (ev_var rfl) (.lst (sq_of h9) dpa)) (shaped_CL rok)) H9 (Ex.refl H9) _ fun H10 e10 => ?_
    have e710 := e79.trans e10
    by_cases hpe : prs = []
    · have hb : ((prs.map (·.2)).map cpD).isEmpty = true := by rw [hpe]; rfl
      rw [hb, if_pos rfl]
      refine x_op (x_draw (ev_var rfl) ev_c (N7.ex e710) (by omega) (by decide) (by decide) fun r H11 b11 N11 hr => x_ev (v := .int 0) ev_c fun H12 e12 => ⟨_, _, rfl, rfl, _, rfl, ?_⟩)
      have b012 := (b7.trans (ExB.ex e710)).trans (b11.trans (ExB.ex e12))
      have N12 := N11.ex e12
      have r3 := ((q3.ex e10).exB b11 (N7.ex e710) nL.1).ex e12
      have r4 := ((q4.ex e10).exB b11 (N7.ex e710) nF.1).ex e12
      have cx : CpAt H12 x.1 x.2 := e12 _ _ (b11 _ _ (fun z => by
        obtain ⟨ns, u, g, n, _⟩ := N7.ex e710
        have := e710 _ _ px
        rw [z, n.hp] at this
        cases this) (e710 _ _ px))
      refine ite2 (fun _ => ?_) fun _ => ⟨⟨_, _, _, _, rfl⟩, stay fd b012 (N12.le (by omega)) r3 r4 (.inl rfl)⟩
      refine x_drop1 ⟨.ref F, rfl, .inl ⟨rfl, _, sq_of r4.hl⟩, .ref x.1, rfl, F, _, _, rfl, rfl, r4.hl, sz_lt (by rw [List.length_map]; omega), ⟨_, _, _, _, rfl⟩, stay (fd ++ [x]) (b012.mut fF) ((N12.mut nF.1 nF.2).le (by omega)) (r3.mut r4.hl (Ne.symm FL)) ⟨by rw [upd_same, List.map_append]; rfl, fun y hy => ?_⟩ (.inr ⟨rfl, hpe⟩)⟩
      have cy : CpAt H12 y.1 y.2 := (List.mem_append.mp hy).elim (r4.hc y) fun h => List.mem_singleton.mp h ▸ cx
      unfold CpAt
      rw [upd_ne fun z => by unfold CpAt at cy; rw [z, r4.hl] at cy; cases cy]
      exact cy
    · have hb : ((prs.map (·.2)).map cpD).isEmpty = false := by
        cases prs with
        | nil => exact absurd rfl hpe
        | cons _ _ => rfl
      rw [hb, if_neg (by decide)]
      exact ⟨⟨_, _, _, _, rfl⟩, stay fd (b7.trans (ExB.ex e710)) ((N7.ex e710).le (by omega)) (q3.ex e10) (q4.ex e10) (.inl rfl)⟩
  · obtain ⟨⟨z, w', u, v, rfl⟩, lf, fd, c1, c2, c3, c4, c5, c6, c7, c8, c9⟩ := pv
    refine x_ret (x_ev (ev_var rfl) fun H5 e5 => k F fd H5 (c1.trans (ExB.ex e5)) ((c2.ex e5).le (by omega)) (c4.ex e5) fF (fun x hx => c8 x (List.mem_append_right _ hx)) ?_ c9)
    rw [List.map_append] at c7
    exact (List.nodup_append.mp c7).2.1
end
end K29
set_option Elab.async false
set_option linter.all false
set_option maxRecDepth 100000
set_option maxHeartbeats 4000000
/-! try with several clauses `except X as n`. -/
namespace K29
open PySem PySem.Spec PyProof.Rows L2 Evl
abbrev TSx := Addr → Value → Option Addr → TS
/-- the ends behind a suite that has bound slot i -/
def offE (i : Nat) (D : Ends) : Ends := { nx := fun t G => D.nx (t.set i none) G, rt := D.rt, bk := fun t G => D.bk (t.set i none) G, ct := fun t G => D.ct (t.set i none) G }
def wAsM (K : PySem.W.Frag) (i : Nat) (W0 : WX) (D : Ends) : List (Value × TSx) → WX
  | [] => W0
  | (c, ts) :: r => fun cls d t G => ∃ b, PySem.W.exmOne K cls c = some b ∧ (b = true → ∀ a, G a = none → ts a cls d (offE i D) (t.set i (some (.ref a))) G) ∧ (b = false → wAsM K i W0 D r cls d t G)
inductive HdsAs (X : Cx) (n : Str) : List ExceptHandler → List (Value × TSx) → Prop
  | nil : HdsAs X n [] []
  | cons {x : Str} {c : Value} {ts : TSx} {b0 : Stmt} {su : List Stmt} {np ps : Pos} {hds : List ExceptHandler} {l : List (Value × TSx)} (hc : Names X x c)
      (hsu : ∀ (a : Addr) (oe : Obj) (cls : Value) (d : Option Addr) (pn : List (Addr × Obj)), Zc cls d oe → (∃ vs, oe.data = .fields vs) → PSs (X.suite a ((a, oe) :: pn)) (b0 :: su) (ts a cls d)) (r : HdsAs X n hds l) :
      HdsAs X n (.ExceptHandler (some (.Name x np)) (some n) (b0 :: su) ps :: hds) ((c, ts) :: l)
section
variable {X : Cx} {n : Str} {i : Nat} {bd : List Stmt} {h0 : ExceptHandler} {hds : List ExceptHandler} {l : List (Value × TSx)} {pos : Pos} {tb : WX → TS} {W0 : WX}
theorem ps_tryAsM (es : X.stack = X.env :: X.outer) (ef : X.env.frame = some X.env.locals) (hN : X.N.Nodup) (hi : X.N[i]? = some n) (hln : X.env.kindOf n = some .local) (tk : Takes X W0)
    (hb : ∀ (W : WX) (pn : List (Addr × Obj)) (xe : Value → Shared → Prop), Takes (X.tr pn xe) W → PassesOwn (model X.prog X.w) X.A X.env xe → PSs (X.tr pn xe) bd (tb W))
    (hh : HdsAs X n (h0 :: hds) l) : PS X (.Try bd (h0 :: hds) [] [] pos) (fun D t G => tb (wAsM X.K i W0 D l) D t G) := by
  refine ⟨fun pins s t G D I h => ?_⟩
  have ok := I.ok; have hloc : Loc X.env.scope n := .inl hln
  have fr1 : X.A.frames = some (X.env :: X.outer) := by rw [ok.frames, es]
  refine wpAny_Try_except (wpAny_mono ((hb (wAsM X.K i W0 D l) (X.pn ++ pins) (fun e z1 => wpAny (model X.prog X.w) X.A (noteFrame e X.env) (fun _ z2 => wpAny (model X.prog X.w) X.A (setFlight e none) (fun _ z3 =>
    wpAny (model X.prog X.w) X.A (handleBy e X.env (h0 :: hds)) (SP X pins D) X.xe z3) X.xe z2) X.xe z1) (fun u z xx => ?_) PassesOwn.looking).run [] s t G D (I.toTry _) h) (fun f z hsp => ?_) (fun e z he => he))
  · obtain ⟨a, B, zI, pi2, t2, G2, cls, d, rfl, J0, nb, up, sky, na, os, ag, wsh⟩ := xx
    have J : Inv X pins t2 G2 zI := J0.ofTry ok
    have sky2 : Sky B (X.env :: X.outer) a (Zc cls d) X.env.locals z.heap := by rw [← es]; exact sky
    show wpAny (model X.prog X.w) X.A (noteFrame (.ref a) X.env) _ _ _
    refine Sky.land Zc.steady fr1 ef sky2 fun p3 fl3 up3 => ?_
    have J3 : Inv X pins t2 G2 { z with heap := p3 } := J.landed nb fl3.1 (up.trans up3) os ag
    obtain ⟨oe3, vs3, he3, hz3, hd3⟩ := fl3.there
    have nfr : a ∉ frs (X.env :: X.outer) := fun hm => by
      obtain ⟨_, o2, e2, hnf⟩ := fl3.2.2.1.mem hm; rw [he3] at e2; cases e2
      exact hnf _ hd3
    have nL : a ≠ X.env.locals := fun y => nfr (List.mem_filterMap.mpr ⟨X.env, List.mem_cons_self, by rw [ef, y]⟩)
    have nF : a ∉ X.fs := fun hm => by
      obtain ⟨e, he, q⟩ := List.mem_filterMap.mp hm
      exact nfr (List.mem_filterMap.mpr ⟨e, List.mem_cons_of_mem _ he, q⟩)
    have S3 := J3.suite he3 hd3 na nL nF
    have go : ∀ {hs2 : List ExceptHandler} {l2 : List (Value × TSx)}, HdsAs X n hs2 l2 → wAsM X.K i W0 D l2 cls d t2 G2 → wpAny (model X.prog X.w) X.A (handleBy (.ref a) X.env hs2) (SP X pins D) X.xe { z with heap := p3 } := by
      intro hs2 l2 hk
      induction hk with
      | nil =>
        intro wn; refine wpAny_handleBy_nil ?_
        obtain ⟨k1, k2, k3, oe, vs, T, oT, tz, he, hz, hd, h1, hr⟩ := id fl3
        unfold PySem.passOn
        refine wpAny_bind (wpAny_field he hd h1 ?_); rw [if_neg (show ¬ ((Value.ref T == Value.none) = true) from by simp)]
        have fin : wpAny (model X.prog X.w) X.A (setFlight (.ref a) X.env.frame) (fun _ z4 => wpAny (model X.prog X.w) X.A (throw (.ref a) : Sem Flow) (SP X pins D) X.xe z4) X.xe { z with heap := p3 } := by
          rw [ef]
          refine HandSPX.setFlight_upZ fl3 fun p4 hh4 up4 => wpAny_throw (tk _ _ ⟨a, B, zI, pins, t2, G2, cls, d, rfl, J, nb, (up.trans up3).trans up4, .inr (.inr (by rw [es]; exact hh4)), na, os, ag, wn⟩)
        first
          | exact wpAny_bind (wpAny_pure (wpAny_bind fin))
          | exact wpAny_bind fin
      | @cons x c ts b0 su np ps hs3 l3 hc hsu r ih =>
        intro wc; obtain ⟨b, hb1, hyes, hno⟩ := wc
        refine wpAny_handleBy_cons (codeAny_handlers_test ?_) (by intro q; cases q)
        have lt : PySem.W.Looks (model X.prog X.w) p3 (typeOf (.ref a)) cls := fun A Q E y k q => wpAny_typeOf_ref (k _ _ he3) (by rw [hz3.1]; exact q)
        have lm := PySem.W.exm_one (M := model X.prog X.w) (J3.kIn) lt hb1
        have test : ∀ {Q : Value → Shared → Prop} {E : Value → Shared → Prop}, Q c { z with heap := p3 } → wpAny (model X.prog X.w) (X.A.mark (some (.ref a))) (eval (.Name x np) X.env) Q E { z with heap := p3 } := fun {Q E} q => by
          obtain ⟨hg, hdbg, hm | ⟨hm, hv, hnn⟩⟩ := hc
          · exact ld_glob (X := X.suite a ((a, oe3) :: (X.pn ++ pins))) S3 hg hm q hdbg
          · exact ld_blt (X := X.suite a ((a, oe3) :: (X.pn ++ pins))) S3 hg hm hv q hnn hdbg
        refine test (lm.here ?_)
        cases b with
        | false =>
          show wpAny _ X.A (handleBy (.ref a) X.env hs3) _ _ _
          exact ih (hno rfl)
        | true =>
          refine codeAny_handlers_suite_as (HandSPX.lands_againZ fl3 fun p4 fl4 up4 => ?_)
          have J4 : Inv X pins t2 G2 { z with heap := p4 } := J.landed nb fl4.1 ((up.trans up3).trans up4) os ag
          obtain ⟨oe4, vs4, he4, hz4, hd4⟩ := fl4.there
          refine store_ok (X := X.suite a ((a, oe4) :: (X.pn ++ pins))) (v := .ref a) (J4.suite he4 hd4 na nL nF) hN hi hloc rfl (fun z5 S5 => ?_) (.inr hln)
          refine wpAny_mono ((hsu a oe4 cls d (X.pn ++ pins) hz4 ⟨_, hd4⟩).run [] z5 _ G2 _ S5 (hyes rfl a na)) (fun f z6 hsp => ?_) (fun _ _ y => False.elim y)
          have off : ∀ {t6 : L2.St} {G6 : Hp} {Q : Shared → Prop}, Inv (X.suite a ((a, oe4) :: (X.pn ++ pins))) [] t6 G6 z6 → (∀ z7, Inv X pins (t6.set i none) G6 z7 → Q z7) →
              wpAny (model X.prog X.w) X.A (do bindName X.env n .none; unbindBehindTheSuite X.env n ps) (fun _ z7 => Q z7) X.xe z6 := fun {t6 G6 Q} S6 hq => gone_ok (S6.unsuite ok) hN hi hln hq
          cases f with
          | ret u =>
            obtain ⟨v6, t6, G6, S6, r6, q6⟩ := hsp; exact off S6 fun z7 J7 => ⟨_, _, _, J7, r6, q6⟩
          | next => obtain ⟨t6, G6, S6, q6⟩ := hsp; exact off S6 fun z7 J7 => ⟨_, _, J7, q6⟩
          | brk => obtain ⟨t6, G6, S6, q6⟩ := hsp; exact off S6 fun z7 J7 => ⟨_, _, J7, q6⟩
          | cont => obtain ⟨t6, G6, S6, q6⟩ := hsp; exact off S6 fun z7 J7 => ⟨_, _, J7, q6⟩
    exact go hh wsh
  · cases f with
    | ret u => obtain ⟨v, t2, G2, J2, r, q⟩ := hsp; exact ⟨v, t2, G2, J2.ofTry ok, r, q⟩
    | next => obtain ⟨t2, G2, J2, q⟩ := hsp; exact wpAny_execs_nil ⟨t2, G2, J2.ofTry ok, q⟩
    | brk => obtain ⟨t2, G2, J2, q⟩ := hsp; exact ⟨t2, G2, J2.ofTry ok, q⟩
    | cont => obtain ⟨t2, G2, J2, q⟩ := hsp; exact ⟨t2, G2, J2.ofTry ok, q⟩
end
end K29
set_option Elab.async false
set_option linter.all false
set_option maxRecDepth 100000
set_option maxHeartbeats 4000000
/-! isinstance of a caught exception that has a dict. -/
namespace K29
section
open PySem PySem.W PySem.Spec PySem.Calls PyProof.Rows
variable {prog : Program} {w : World} {A : Around} {E : Value → Shared → Prop} {s : Shared} {K : PySem.W.Frag} {x D : Addr} {ox od : Obj}
/-- what is said of the class -/
structure XIs (K : PySem.W.Frag) (D : Addr) : Prop where
  xf : L2.XfC K D
  ha : findIn K (.ref D) "__class__" = some (some (.builtin "object.__class__"))
  hn : specialIn K (.builtin "object.__class__") "__get__" = some (some (.builtin "getset_descriptor.__get__"))
  ht : takesIn K (.builtin "object.__class__") = some true
  hm : mroIn K D (.type "object") = some true
theorem kin_classX {Q : Option Value → Shared → Prop} (C : XIs K D) (X : K.In s.heap) (I : PySem.W.InstAt s.heap x ox D (some od)) (h : Q (some (.ref D)) { s with toks := s.toks + 1 }) : wpAny (model prog w) A (getAttr? (.ref x) "__class__") Q E s := by
  have hf : findObj K D (some od) "__class__" = some (.bind (.builtin "getset_descriptor.__get__") (.builtin "object.__class__")) := findObj_data (by obtain ⟨cd, hc, _⟩ := any_some C.xf.hdC; rw [hc]; rfl) C.ha C.hn C.ht
  obtain ⟨hp, g, d, t, os⟩ := s
  have K0 := I.type (M := model prog w); have K1 := looks_findIn (M := model prog w) X C.xf.ga; have K2 := looks_findIn (M := model prog w) X C.xf.gg
  have K3 := looks_find (M := model prog w) X I hf
  have sb : Looks (model prog w) hp (isInstance (.ref x) (.type "BaseException")) true := K0.andThen (looks_subIn X C.xf.exC)
  have z0 : (false && onTheHeap (Value.builtin "BaseException.__getattribute__")) = false := rfl
  have z2 : (Value.builtin "BaseException.__getattribute__" == Value.builtin "object.__getattribute__") = false := by decide +kernel
  have z1 : (onTheHeap (Value.ref D) && Value.builtin "BaseException.__getattribute__" == Value.builtin "object.__getattribute__") = false := by rw [z2]; rfl
  unfold getAttr? getAttrBy? getAttrBy
  refine wpAny_bind (wpAny_mkText (wpAny_bind (wpAny_attempt (wpAny_holding (wpAny_bind (K0.at (wpAny_bind (K1.at ?_))))))))
  show wpAny _ _ (if (onTheHeap (Value.ref D) && Value.builtin "BaseException.__getattribute__" == Value.builtin "object.__getattribute__") = true then _ else _) _ _ _
  rw [z1, if_neg Bool.false_ne_true]; unfold getAttrByItsOwn hookBefore; refine wpAny_bind ?_
  rw [if_pos (show onTheHeap (Value.ref D) = true from rfl)]
  refine K2.at (wpAny_bind (wpAny_attempt (wpAny_holding ?_)))
  unfold callGetattribute; rw [z0, if_neg Bool.false_ne_true]; unfold boundAndCalled; rw [PySem.F.excAttr_ValueError.ga.bind (.ref x)]
  refine wpAny_bind (wpAny_pure ?_)
  show wpAny _ _ (call (.builtin "BaseException.__getattribute__") [.ref x, .str "__class__" t]) _ _ _
  refine wpAny_call (codeAny_call_builtin PySem.F.excAttr_ValueError.ga.plain PySem.F.entry_bexc_ga (@check_slot (model prog w) _ _ ⟨hp, g, d, t + 1, os⟩ "BaseException.__getattribute__" "BaseException" "__getattribute__" (.ref x) [.str "__class__" t] [] _ (by decide +kernel) (by decide +kernel) sb (PySem.F.args_bexc_ga (.ref x) (.str "__class__" t)) ?_))
  unfold Builtin.«object.__getattribute__»
  refine wpAny_bind (wpAny_of_eq (a := ((Value.ref x : Value), [Value.str "__class__" t])) (by first | rfl | (simp only [slotArgs]; rfl)) (wpAny_bind (wpAny_pure (wpAny_bind (K0.at (wpAny_bind (K3.at ?_)))))))
  show wpAny _ _ (holding [Value.builtin "object.__class__"] (call (.builtin "getset_descriptor.__get__") [.builtin "object.__class__", .ref x, .ref D]) >>= ret) _ _ _
  refine wpAny_bind (wpAny_holding (wpAny_call (class_get (s := ⟨hp, g, d, t + 1, os⟩) (ox := ox) (od := some od) X I C.hm (wpAny_pure ?_))))
  show wpAny _ _ (handedOut (.ref D)) _ _ _
  rw [handedOut_of (v := .ref D) rfl]
  first
    | exact wpAny_pure (wpAny_pure h)
    | exact wpAny_pure h
    | exact wpAny_pure (wpAny_bind (wpAny_pure (wpAny_pure h)))
theorem kitx_X (C : XIs K D) : KitX K (.ref x) (.ref D) (fun h => PySem.W.InstAt h x ox D (some od)) where
  ty := fun _ _ _ I => I.type
  it := fun _ _ X _ => by
    obtain ⟨cdD, hcD, _⟩ := any_some C.xf.hdC; unfold clsIn at hcD; split at hcD
    · rename_i c2 d2 cd2 sl2 ho; intro A2 Q2 E2 s2 k q
      unfold isType loadHead; exact wpAny_bind (wpAny_loadPart (k _ _ (X _ _ ho)) (wpAny_pure q))
    · cases hcD
  ne := fun h tp dd its n sl X htp => by
    obtain ⟨cdD, hcD, _⟩ := any_some C.xf.hdC
    refine Bool.eq_false_iff.mpr fun q => ?_
    have e : D = tp := Value.ref.inj (beq_iff_eq.mp q); subst e; unfold clsIn at hcD; split at hcD
    · rename_i c2 d2 cd2 sl2 ho; have z := (X _ _ ho).symm.trans htp; cases z
    · cases hcD
  ca := fun X I k => kin_classX C X I k
end
section
open PySem PySem.Spec PyProof.Rows L2 Evl
/-- isinstance(e, c), e the exception that the suite holds, with a dict -/
def rIsX (K : PySem.W.Frag) (D a dd : Addr) : List V → Hp → VK → Prop := fun xs H Q => ∃ (c : V) (cv : Value) (b : Bool) (fs : List (Str × V)), xs = [.ref a, c] ∧ (∀ u, RelV c u → u = cv) ∧ PySem.W.kitOne K (.ref D) cv = some b ∧ H dd = some (.xd fs) ∧ Q (.bl b) H
theorem call_isX {X : Cx} {a D dd : Addr} {oe : Obj} {pn : List (Addr × Obj)} (C : XIs X.K D) (hz : Zc (.ref D) (some dd) oe) (hf : ∃ vs, oe.data = .fields vs) : CallR (X.suite a ((a, oe) :: pn)) (.builtin "isinstance") (rIsX X.K D a dd) := by
  intro pins s σ H xs us Q I r h
  obtain ⟨c, cv, b, fs, rfl, hcv, e, hdd, q⟩ := h
  cases r with
  | cons rx rr =>
    cases rr with
    | cons rt rr =>
      cases rr
      cases rx
      have ec := hcv _ rt; subst ec
      obtain ⟨hget, _⟩ := I.pin (a, oe) (List.mem_append.mpr (.inl List.mem_cons_self))
      obtain ⟨vs, hv⟩ := hf
      have hx : ObjOk X.prog X.w H s.heap dd (.xd fs) := I.hok dd _ hdd
      obtain ⟨mA, hns, hr⟩ := hx
      obtain ⟨od, ho, hl⟩ := lookIn_ns hns
      have J : PySem.W.InstAt s.heap a oe D (some od) := ⟨hget, hz.1, by unfold PySem.W.notCls; rw [hv] <;> rfl, by rw [hz.2]; exact ho⟩
      exact PySem.W.kia_one (kitx_X C) I.kIn J e (fun z => nomatch z) fun tk => ⟨.bl b, H, I.kept (t' := tk) fun _ _ z => z, rfl, q⟩
end
end K29
set_option Elab.async false
set_option linter.all false
set_option maxRecDepth 100000
set_option maxHeartbeats 4000000
/-! _law_heard. -/
namespace K29
open PySem PySem.Spec PyProof.Rows L2 Evl LamX
abbrev nsH : List Str := ["_law_ask", "_law_found", "e"]
theorem sc_law_heard : FnScope nsH ["_law_ask"] (defScope s_law_heard) := ⟨rfl, rfl, rfl, by decide +kernel, rfl, by decide +kernel, by decide +kernel⟩
/-- what _law_heard makes of an exception -/
def HeardE (K : PySem.W.Frag) (Q : VK) : XK := fun cls d G => ∃ (dd : Addr) (fs : List (Str × V)) (v : V), d = some dd ∧ G dd = some (.xd fs) ∧
  ((cls = .ref (He.ga K "NotMoved") ∧ fs.lookup ("name" : Str) = some v ∧ ∀ q, G q = none → Q (.ref q) (upd G q (.tup [.str "moved", v, .bl true, .bl false]))) ∨
   (cls = .ref (He.ga K "InvalidPasses") ∧ fs.lookup ("value" : Str) = some v ∧ ∀ q, G q = none → Q (.ref q) (upd G q (.tup [.str "passes", v]))) ∨
   (cls = .ref (He.ga K "TooMany") ∧ fs.lookup ("limit" : Str) = some v ∧ ∀ q, G q = none → Q (.ref q) (upd G q (.tup [.str "many", v]))))
def THeard (K : PySem.W.Frag) : (XK → Hp → VK → Prop) → Hp → VK → Prop := fun tl H Q => ∀ (E' : XK) (Q' : VK), (∀ v G, Q v G → Q' v G) → (∀ cls d G, HeardE K Q cls d G → E' cls d G) → tl E' H Q'
theorem takes_len {X : Cx} {W : WX} (t : Takes X W) : Takes X (fun c d σ H => σ.length = X.N.length → W c d σ H) := fun u s' ⟨a, B, sI, pins, σ, H, cls, d, e, I, nb, up, sky, na, os, ag, w⟩ =>
  t u s' ⟨a, B, sI, pins, σ, H, cls, d, e, I, nb, up, sky, na, os, ag, w I.len⟩
theorem list3 {α : Type} {l : List α} (h : l.length = 3) : ∃ x y z, l = [x, y, z] := by
  match l, h with
  | [x, y, z], _ => exact ⟨x, y, z, rfl⟩
/-- a suite that asks the class and the dict of what it caught -/
def tCaught (C : Addr) (cls : Value) (d : Option Addr) (t : Addr → TS) : TS := fun D σ H => ∃ dd, cls = .ref C ∧ d = some dd ∧ t dd D σ H
theorem pss_caught {X : Cx} {C : Addr} {cls : Value} {d : Option Addr} {b : List Stmt} {t : Addr → TS} (h : ∀ dd, cls = .ref C → d = some dd → PSs X b (t dd)) : PSs X b (tCaught C cls d t) :=
  ⟨fun pins s σ H D I hh => by
    obtain ⟨dd, e1, e2, hw⟩ := hh
    exact (h dd e1 e2).run pins s σ H D I hw⟩
section
variable {K : PySem.W.Frag} {mg : Str → Option Value}
theorem xis (T : Tx K mg) : XIs K (He.ga K "NotMoved") := ⟨T.xf_NotMoved, T.is_NotMoved.ha, T.is_NotMoved.hn, T.is_NotMoved.ht, T.is_NotMoved.hm⟩
theorem heard_gives {X : Cx} (T : Tx X.K X.mg) {g : Addr} {cdg : Value} {q : Str} :
    GivesTo X nsH "_law_heard" (defScope s_law_heard) g cdg (defBody s_law_heard) "_law_ask" q (THeard X.K) := by
  intro f c' s H Q tl act hc h
  have hnd := sc_law_heard.nd
  refine ⟨_, pss_cons (ps_asg pe_str (pg_name (i := 1) hnd rfl (Or.inl rfl)))
    (pss_cons (ps_tryAsM (X := (cxOf C8.CX0 X.prog X.w X.K X.mg X.base nsH "_law_heard" (defScope s_law_heard) g cdg X.A X.stack s H C8.E0).nox) (n := "e") (i := 2)
      (tb := fun W D σ H => ∃ Ech : XK, (∀ cls d (σ' : L2.St) H', Ech cls d H' → σ'.length = 3 → W cls d σ' H') ∧ σ[0]? = some (some (.ref f)) ∧ H c' = some (CodeO c' q) ∧ tl Ech H (fun v H' => D.nx (σ.set 1 (some v)) H'))
      rfl rfl hnd rfl rfl L2.takes0 (fun W pn xe tk _ => ⟨fun pins s' σ H' D I h' => ?_⟩)
      (.cons ⟨by rfl, by decide +kernel, .inl T.g_NotMoved⟩ (fun a oe cls d pn hz hf => pss_caught fun dd e1 e2 => pss_one (ps_asg (pe_tup (pa_cons pe_str (pa_cons (pe_xf T.xf_NotMoved T.x_NotMoved.noF hz hf (pv 2)) (pa_cons (pe_callB (call_isX (dd := dd) (xis T) (by rw [← e1, ← e2]; exact hz) hf) (by rfl) T.f_isinstance bi_isinstance (pa_cons (pv 2) (pa_cons (pe_glob (v := .ref (He.ga X.K "PassError")) (by rfl) T.g_PassError rfl) pa_nil)))
        (pa_cons (pe_callB (call_isX (dd := dd) (xis T) (by rw [← e1, ← e2]; exact hz) hf) (by rfl) T.f_isinstance bi_isinstance (pa_cons (pv 2) (pa_cons (pe_glob (v := .ref (He.ga X.K "InvalidPasses")) (by rfl) T.g_InvalidPasses rfl) pa_nil))) pa_nil))))) (pg_name (i := 1) hnd rfl (Or.inl rfl))))
      (.cons ⟨by rfl, by decide +kernel, .inl T.g_InvalidPasses⟩ (fun a oe cls d pn hz hf => pss_one (ps_asg (pe_tup (pa_cons pe_str (pa_cons (pe_xf T.xf_InvalidPasses T.x_InvalidPasses.noF hz hf (pv 2)) pa_nil))) (pg_name (i := 1) hnd rfl (Or.inl rfl))))
      (.cons ⟨by rfl, by decide +kernel, .inl T.g_TooMany⟩ (fun a oe cls d pn hz hf => pss_one (ps_asg (pe_tup (pa_cons pe_str (pa_cons (pe_xf T.xf_TooMany T.x_TooMany.noF hz hf (pv 2)) pa_nil))) (pg_name (i := 1) hnd rfl (Or.inl rfl)))) .nil))))
    (pss_one (ps_ret (pv 1)))), ?_⟩
  · obtain ⟨Ech, hW, h1, h2, h3⟩ := h'
    have hq := fun (p1 p2 p3 p4 : Pos) => pss_one (ps_asg (pos := p4) (tg := .Name "_law_found" p3) (act _ pn xe Ech p1 p2 (takes_len tk) hW) (pg_name (i := 1) hnd rfl (Or.inl rfl)))
    exact (hq _ _ _ _).run pins s' σ H' D I ⟨h1, h2, h3⟩
  · refine ⟨HeardE X.K Q, fun cls d σ' G hE hl => ?_, rfl, hc, h _ _ (fun v G hq => ⟨v, rfl, hq⟩) fun _ _ _ h => h⟩
    obtain ⟨x, y, z, rfl⟩ := list3 hl
    obtain ⟨dd, fs, v, rfl, hdd, hcase⟩ := hE
    rcases hcase with ⟨rfl, hv, k⟩ | ⟨rfl, hv, k⟩ | ⟨rfl, hv, k⟩
    · refine ⟨true, T.em_NotMoved_NotMoved, fun _ a ha => ⟨dd, rfl, rfl, ?_⟩, fun h => by cases h⟩
      refine x_asg1 (x_tup (x_cons ?_))
      exact ⟨.ref a, rfl, rfl, rfl, dd, fs, v, rfl, hdd, hv, .ref a, rfl, .ref (He.ga X.K "PassError"), .ref (He.ga X.K "PassError"), true, fs, rfl, fun u h => h, T.ki_NotMoved_PassError, hdd, .ref a, rfl, .ref (He.ga X.K "InvalidPasses"), .ref (He.ga X.K "InvalidPasses"), false, fs, rfl, fun u h => h, T.ki_NotMoved_InvalidPasses, hdd,
        sz_of (by show 4 ≤ 100000; decide), fun q hq => ⟨.ref q, rfl, k q hq⟩⟩
    · refine ⟨false, T.em_InvalidPasses_NotMoved, (fun h => by cases h), fun _ => ⟨true, T.em_InvalidPasses_InvalidPasses, fun _ a ha => ?_, fun h => by cases h⟩⟩
      refine x_asg1 (x_tup (x_cons ?_))
      exact ⟨.ref a, rfl, rfl, rfl, dd, fs, v, rfl, hdd, hv, sz_of (by show 2 ≤ 100000; decide), fun q hq => ⟨.ref q, rfl, k q hq⟩⟩
    · refine ⟨false, T.em_TooMany_NotMoved, (fun h => by cases h), fun _ => ⟨false, T.em_TooMany_InvalidPasses, (fun h => by cases h), fun _ => ⟨true, T.em_TooMany_TooMany, fun _ a ha => ?_, fun h => by cases h⟩⟩⟩
      refine x_asg1 (x_tup (x_cons ?_))
      exact ⟨.ref a, rfl, rfl, rfl, dd, fs, v, rfl, hdd, hv, sz_of (by show 2 ≤ 100000; decide), fun q hq => ⟨.ref q, rfl, k q hq⟩⟩
end
end K29
set_option Elab.async false
set_option linter.all false
set_option maxRecDepth 100000
set_option maxHeartbeats 4000000
/-! repr of data, the empty dict among them. -/
namespace K29
open PySem PySem.Spec PyProof.Rows L2 Evl
/-- a value that reads a datum: no dict in it, or the empty dict -/
inductive RdV (K : PySem.W.Frag) (H : Hp) : V → PyData → Prop
  | dp {v : V} {d : PyData} (h : Dp K H v d) (hd : d.hasDict = false) : RdV K H v d
  | dict {a : Addr} (h : H a = some (.dK [])) : RdV K H (.ref a) (.dict [])
/-- a display of such values, as far as the law asks repr of one -/
inductive RdW (K : PySem.W.Frag) (H : Hp) : Addr → PyData → Prop
  | dp {a : Addr} {d : PyData} (h : Dp K H (.ref a) d) (hd : d.hasDict = false) : RdW K H a d
  | told {q : Addr} {z : Str} {v : V} {d : PyData} {b c : Bool} (h : SqT K H q [.str z, v, .bl b, .bl c]) (hv : RdV K H v d) : RdW K H q (.tuple [.str z, d, .bool b, .bool c])
section
variable {X : Cx} {pins : List (Addr × Obj)} {σ : L2.St} {H : Hp} {s : Shared}
theorem RdV.reads (I : Inv X pins σ H s) {v : V} {d : PyData} {u : Value} (h : RdV X.K H v d) (r : RelV v u) : ∃ as, Reads s.heap u d as ∧ (d.hasDict = true → sysModules ∉ as) := by
  cases h with
  | dp h hd =>
    obtain ⟨as, r1⟩ := Dp.reads I d v u h r
    exact ⟨as, r1, fun z => by rw [hd] at z; cases z⟩
  | @dict a h =>
    cases r
    obtain ⟨_, hs, vs, kv, o, es, ep, e, ed, eo, _, em, _⟩ := I.hok a _ h
    cases kv
    have em2 : es.toList = [] := by
      cases hq : es.toList with
      | nil => rfl
      | cons _ _ => rw [hq] at em; cases em
    refine ⟨a :: [] ++ [], .dict e ed.1 eo (by rw [em2]; exact .nil) (by rw [em2]; exact .nil), fun _ hm => ?_⟩
    have : sysModules = a := by simpa using hm
    rw [← this] at hs
    simp at hs
theorem RdW.reads (I : Inv X pins σ H s) {a : Addr} {d : PyData} (h : RdW X.K H a d) : ∃ as, Reads s.heap (.ref a) d as ∧ (d.hasDict = true → sysModules ∉ as) := by
  cases h with
  | dp h hd => exact (RdV.dp h hd).reads I rfl
  | told h hv =>
    obtain ⟨its, rv, p, hz⟩ := I.tuple h
    obtain ⟨o, ho, hcl, n, hd⟩ := p
    cases rv with
    | cons r1 rr => cases rr with
      | cons r2 rr => cases rr with
        | cons r3 rr => cases rr with
          | cons r4 rr =>
            cases rr
            obtain ⟨as, q1, q2⟩ := hv.reads I r2
            obtain ⟨t, rfl⟩ := r1
            cases r3
            cases r4
            refine ⟨[] ++ (as ++ ([] ++ ([] ++ []))), .tuple ho hcl hd (.cons (.str _ _) (.cons q1 (.cons (.bool _) (.cons (.bool _) .nil)))), fun hh hm => ?_⟩
            have hm' : sysModules ∈ as := by simpa using hm
            refine q2 ?_ hm'
            simpa [PyData.hasDict, PyData.hasDictAll] using hh
/-- repr of a display -/
def rReprW (K : PySem.W.Frag) : List V → Hp → VK → Prop := fun xs H Q => ∃ (a : Addr) (d : PyData), xs = [.ref a] ∧ RdW K H a d ∧ d.showable = true ∧ d.depth ≤ 60 ∧ d.shown.length ≤ sizeLine ∧ Q (.str d.shown) H
theorem cr_reprW (hg : X.A.guards = some []) (hu : X.A.units + 64 < cLine) : CallR X (.builtin "repr") (rReprW X.K) := by
  intro pins s σ H xs us Q I r h
  obtain ⟨a, d, rfl, hd, h1, h2, h3, q⟩ := h
  rw [Vals.ref1 r]
  obtain ⟨as, r1, r2⟩ := hd.reads I
  exact repr_of_reads' r1 h1 r2 hg (by omega) (fun _ _ e => e) (fun h' u tk hk => ⟨.str d.shown, H, I.kept (t' := tk) hk, ⟨u, rfl⟩, q⟩) h3
end
end K29
set_option Elab.async false
set_option linter.all false
set_option maxRecDepth 100000
set_option maxHeartbeats 4000000
/-! Promises of defs called where no guard stands (repr asks that), whose code object is known (a lambda's making asks that). -/
namespace K29
open PySem PySem.Spec PyProof.Rows L2 Evl LamX
def FnG (P : Program) (w : World) (K : PySem.W.Frag) (mg : Str → Option Value) (base : Heap) (k : Nat) (f : Addr) (sp : Sp) : Prop :=
  ∀ (A : Around) (outer : List Env) (s : Shared) (H : Hp) (us : List Value) (vs : List V) (Q : VK) (E : XK), Room k A → A.guards = some [] → Env0 P w K mg base A outer s H → Vals vs us → sp vs H Q E →
    codeAny (model P w) A (.call (.ref f) ⟨us, []⟩) (CR CX0 outer P w H s Q E) s
section
variable {P : Program} {w : World} {K : PySem.W.Frag} {mg : Str → Option Value} {base : Heap}
theorem fng {x qual : Str} {params : Arguments} {body : List Stmt} {scope : Scope} {p : He.Defn} {N ps : List Str} {k : Nat} {sp : Sp}
    (F : ∃ fd, FunD K x qual params body scope [] [] (He.fAd K p) fd) (S : FnScope N ps scope)
    (hb : ∀ (kV doc pm : Value) (an : Option Addr) (cdv ct : Value) (us : List Value), us.length = ps.length → bindArgs (PySem.W.fnOf x qual params body scope .none kV doc pm an cdv ct) ⟨us, []⟩ = pure (ps.zip us))
    (len : ∀ vs H Q E, sp vs H Q E → vs.length = ps.length)
    (go : ∀ (A : Around) (outer : List Env) (s : Shared) (H : Hp) (vs : List V) (Q : VK) (E : XK), Room k (A.deeper (envOfC qual scope s.heap.objs.size (He.fAd K p) (.ref (He.cT K p).1))) → A.guards = some [] → sp vs H Q E →
      ∃ t, PSs (cxOf CX0 P w K mg base N qual scope (He.fAd K p) (.ref (He.cT K p).1) A outer s H E).nox body t ∧ t { nx := fun _ H' => Q .non H', rt := Q } (start N vs) H) :
    FnG P w K mg base (k + 1) (He.fAd K p) sp := by
  obtain ⟨fd, F⟩ := F
  have B := F.bindsN hb
  obtain ⟨oc, od, dV, kV, doc, pm, an, cdv, ct, osl, rfl, lk, hcd, _, _⟩ := F.ex
  obtain ⟨c, rfl⟩ := He.codeIn_ref hcd
  have ec : (He.cT K p).1 = c := He.codeOf_eq lk rfl
  subst ec
  intro A outer s H us vs Q E hr hg e0 r hs
  have hl := len vs H Q E hs
  have KX : K.In s.heap := e0.mod.kin.keeps fun b o e => (e0.bs b o e).1
  refine run_ofS (N := N) (ps := ps) (us := us) lk hcd S hr e0 ?_ r hl fun hr2 => ?_
  · have := B s us KX (by have := r.length; simp; omega)
    simpa using this
  · obtain ⟨t, h1, h2⟩ := go A outer s H vs Q E hr2 hg hs
    exact ⟨t, h1.nox, h2⟩
end
section
variable {X : Cx} {k : Nat} {f : Addr} {sp : Sp} {E : XK} {x : Str} {e : Expr} {es : List Expr} {t : TA} {p pos : Pos}
theorem pe_fnG (F : FnG X.prog X.w X.K X.mg X.base k f sp) (hr : Room k X.A) (hgd : X.A.guards = some []) (hg : Gl X x) (hm : X.mg x = some (.ref f)) (hk : PySem.W.keepIn X.K (.ref f) = true) (hx : Passes CX0 X E) (ha : PA X (e :: es) t)
    (hd : (x == ("__debug__" : Str)) = false := by decide) (he : starEach (e :: es) X.env = (false, eval e X.env) :: starEach es X.env := by rfl)
    (hpl : (backTo pos (starEach es X.env)).any (·.1) = false := by rfl) : PE X (.Call (.Name x p) (e :: es) [] pos) (tFn sp E t) := by
  constructor
  intro pins s σ H Q I h
  refine wpAny_Call_Name_kw (ld_glob I hg hm (PySem.W.callWith_K (h₀ := X.base) I.ok.mod.kin hk (thn (ha.run pos pins s σ H _ I h) ?_) he hpl) hd)
  rintro us s1 ⟨vs, H1, I1, r, q⟩
  refine ⟨I1.kIn, wpAny_call (codeAny_mono (F X.A X.stack s1 H1 us vs Q E hr hgd I1.env0 r q) fun r s' hq => ?_)⟩
  cases r with
  | error e => exact hx pins σ H1 s1 e s' I1 hq
  | ok fl =>
    cases fl with
    | ret u => exact I1.after hq
    | next => exact False.elim hq
    | brk => exact False.elim hq
    | cont => exact False.elim hq
end
end K29
set_option Elab.async false
set_option linter.all false
set_option maxRecDepth 100000
set_option maxHeartbeats 4000000
/-! What stays when all but the tables stays. -/
namespace K29
open PySem PySem.Spec PyProof.Rows L2 Evl LamX
/-- another object than a table -/
def NoTbl (o : HO) : Prop := ∀ ps, o ≠ .tbl ps
theorem st_extN {K : PySem.W.Frag} {H H' : Hp} {a : Addr} {xs : List V} (e : ExtN H H') (h : SqT K H a xs) : SqT K H' a xs := by
  rcases h with h | h
  · exact .inl (h.elim (fun h => .inl (e _ _ h fun ps => (fun z => nomatch z))) fun ⟨o, h⟩ => .inr ⟨o, e _ _ h fun ps => (fun z => nomatch z)⟩)
  · exact .inr h
theorem ShAt.extN {CS : Addr} {H H' : Hp} {s : Addr} {rows : List Str} {nd : Str → List Str} (S : ShAt CS H s rows nd) (e : ExtN H H') : ShAt CS H' s rows nd := by
  obtain ⟨dy, n, d, o, z, ad, h1, h2, h3⟩ := S.ex_
  exact ⟨dy, n, d, o, z, ad, e _ _ h1 (fun ps => (fun z => nomatch z)), ⟨h2.ln, h2.ld, e _ _ h2.hn (fun ps => (fun z => nomatch z)), e _ _ h2.hd (fun ps => (fun z => nomatch z)), fun r hr => e _ _ (h2.ha r hr) (fun ps => (fun z => nomatch z))⟩, e _ _ h3 (fun ps => (fun z => nomatch z))⟩
theorem KeepAt.extN {K : PySem.W.Frag} {H H' : Hp} {a s : Addr} {rows : List Str} {nd : Str → List Str} {m : Int} {ks : List Str} {c : Str → Int} (k : KeepAt K H a s rows nd m ks c) (e : ExtN H H') : KeepAt K H' a s rows nd m ks c := by
  obtain ⟨dx, o, be, byy, ky, z, bks, bl, h1, h2, h3, h4, h5, h6, h7, h8⟩ := k.ex_
  obtain ⟨ad, hb1, hb2⟩ := h4.ex_
  obtain ⟨ad2, hc1, hc2⟩ := h8.ex_
  exact ⟨dx, o, be, byy, ky, z, bks, bl, e _ _ h1 (fun ps => (fun z => nomatch z)), h2.extN e, e _ _ h3 (fun ps => (fun z => nomatch z)), ⟨ad, e _ _ hb1 (fun ps => (fun z => nomatch z)), fun r hr => e _ _ (hb2 r hr) (fun ps => (fun z => nomatch z))⟩, h5, h6, e _ _ h7 (fun ps => (fun z => nomatch z)),
    ⟨ad2, st_extN e hc1, fun i d hi => e _ _ (hc2 i d hi) (fun ps => (fun z => nomatch z))⟩⟩
/-- the odd values that the law gives -/
inductive OddV (H : Hp) : V → PyData → Prop
  | non : OddV H .non .none
  | bl : OddV H (.bl true) (.bool true)
  | int {i : Int} (h : i.natAbs.log2 < 1920) : OddV H (.int i) (.int i)
  | str (z : Str) : OddV H (.str z) (.str z)
  | tup0 {a : Addr} (h : H a = some (.tup [])) : OddV H (.ref a) (.tuple [])
  | lst0 {a : Addr} (h : H a = some (.lst [])) : OddV H (.ref a) (.list [])
  | dict {a : Addr} (h : H a = some (.dK [])) : OddV H (.ref a) (.dict [])
  | tupA {a : Addr} {z : Str} (h : H a = some (.tup [.str z])) : OddV H (.ref a) (.tuple [.str z])
theorem OddV.extN {H H' : Hp} {v : V} {d : PyData} (o : OddV H v d) (e : ExtN H H') : OddV H' v d := by
  cases o with
  | non => exact .non
  | bl => exact .bl
  | int h => exact .int h
  | str z => exact .str z
  | tup0 h => exact .tup0 (e _ _ h fun ps => (fun z => nomatch z))
  | lst0 h => exact .lst0 (e _ _ h fun ps => (fun z => nomatch z))
  | dict h => exact .dict (e _ _ h fun ps => (fun z => nomatch z))
  | tupA h => exact .tupA (e _ _ h fun ps => (fun z => nomatch z))
theorem OddV.rd {K : PySem.W.Frag} {H : Hp} {v : V} {d : PyData} (o : OddV H v d) : RdV K H v d := by
  cases o with
  | non => exact .dp .non rfl
  | bl => exact .dp (.bl _) rfl
  | int h => exact .dp (.int _) rfl
  | str z => exact .dp (.str _) rfl
  | tup0 h => exact .dp (.tup (st_of h) .nil) rfl
  | lst0 h => exact .dp (.lst (sq_of h) .nil) rfl
  | dict h => exact .dict h
  | tupA h => exact .dp (.tup (st_of h) (.cons (.str _) .nil)) rfl
theorem OddV.show {H : Hp} {v : V} {d : PyData} (o : OddV H v d) : d.showable = true ∧ d.depth ≤ 2 := by
  cases o with
  | int h => exact ⟨by simp [PyData.showable, h], by simp [PyData.depth]⟩
  | non => exact ⟨by simp [PyData.showable], by simp [PyData.depth]⟩
  | bl => exact ⟨by simp [PyData.showable], by simp [PyData.depth]⟩
  | str z => exact ⟨by simp [PyData.showable], by simp [PyData.depth]⟩
  | tup0 h => exact ⟨by simp [PyData.showable, PyData.showableAll], by simp [PyData.depth, PyData.depthAll]⟩
  | lst0 h => exact ⟨by simp [PyData.showable, PyData.showableAll], by simp [PyData.depth, PyData.depthAll]⟩
  | dict h => exact ⟨by simp [PyData.showable, PyData.showableKv], by simp [PyData.depth, PyData.depthKv]⟩
  | tupA h => exact ⟨by simp [PyData.showable, PyData.showableAll], by simp [PyData.depth, PyData.depthAll]⟩
theorem sh4 {d : PyData} (h : d.shown.length ≤ 1000) : (PyData.tuple [.str "moved", d, .bool true, .bool false]).shown.length ≤ sizeLine := by
  have e : (PyData.tuple [.str "moved", d, .bool true, .bool false]).shown = tupleText [reprText "moved", d.shown, "True", "False"] := by simp [PyData.shown, PyData.shownAll]
  have j := join_length_add [reprText "moved", d.shown, ("True" : Str), ("False" : Str)] (by simp)
  have l1 : (reprText ("moved" : Str)).length ≤ 100 := by decide +kernel
  have l2 : ("True" : Str).length = 4 := rfl
  have l3 : ("False" : Str).length = 5 := rfl
  simp only [piled, List.map_cons, List.map_nil, List.sum_cons, List.sum_nil, l2, l3] at j
  rw [e]
  unfold tupleText
  refine sz_of ?_
  rw [Str.length_append, Str.length_append]
  have l4 : ("(" : Str).length = 1 := rfl
  have l5 : ((if [reprText "moved", d.shown, ("True" : Str), ("False" : Str)].length == 1 then ",)" else ")" : String) : Str).length = 1 := rfl
  omega
theorem refus_of {K : PySem.W.Frag} {H : Hp} {rows ks : List Str} {x : V} {d : PyData} (o : OddV H x d) (hs : ∀ z, x = .str z → z ∉ rows ∨ z ∈ ks) : Refus K H rows ks x := by
  cases o with
  | non => exact .inl ⟨_, fun _ _ => .base .non, kit_ty (by decide +kernel)⟩
  | bl => exact .inl ⟨_, fun _ _ => .base (.bl _), kit_ty (by decide +kernel)⟩
  | int h => exact .inl ⟨_, fun _ _ => .base (.int _), kit_ty (by decide +kernel)⟩
  | str z => exact .inr ⟨z, rfl, hs z rfl⟩
  | tup0 h => exact .inl ⟨_, fun _ e => .base (.tup (e _ _ h)), kit_ty (by decide +kernel)⟩
  | lst0 h => exact .inl ⟨_, fun _ e => .base (.lst (e _ _ h)), kit_ty (by decide +kernel)⟩
  | dict h => exact .inl ⟨_, fun _ e => .base (.dK (e _ _ h)), kit_ty (by decide +kernel)⟩
  | tupA h => exact .inl ⟨_, fun _ e => .base (.tup (e _ _ h)), kit_ty (by decide +kernel)⟩
end K29
set_option Elab.async false
set_option linter.all false
set_option maxRecDepth 100000
set_option maxHeartbeats 4000000
/-! o.m(n=e). -/
namespace K29
open PySem PySem.Spec PyProof.Rows L2 Evl
section
variable {X : Cx} {CX : CXT} {k : Nat} {C f : Addr} {fd : FuncData} {ps : List Str} {m n : Str} {sp : Sp} {E : XK} {o e : Expr} {ta te : TE} {apos pos kpos : Pos} {pl : Sem Bool}
def tMethKw (C : Addr) (m : Str) (sp : Sp) (E : XK) (ta te : TE) : TE := fun σ H Q => ta σ H fun x H1 => ∃ a dx fs, x = .ref a ∧ H1 a = some (.ins C dx fs) ∧ fs.lookup m = none ∧ te σ H1 fun y H2 => sp [x, y] H2 Q E
theorem pe_methKw (he : PE X o ta) (c : Cls X.K C) (hm : Meth X.K C m f) (F : FnOk X.prog X.w X.K X.mg X.base CX k f fd ps sp) (hr : Room k X.A) (hx : Passes CX X E) (hv : PE X e te) (hb : ∀ (s : Shared) (u v : Value), BindsTo s fd ⟨[u], [(n, v)]⟩ (ps.zip [u, v]))
    (hpl : ((backTo pos (starEach [] X.env)).any (·.1) || (backToKw pos (keywordEach [⟨some n, e, kpos⟩] X.env)).any (·.1.isNone)) = false := by rfl)
    (hall : (backToKw pos (keywordEach [⟨some n, e, kpos⟩] X.env)).all (·.1.isSome) = true := by rfl)
    (ht : eval (.Call (.Attribute o m apos) [] [⟨some n, e, kpos⟩] pos) X.env = (do
      let ov ← eval o X.env
      standAt apos.atName
      let (g, first) ← holding [ov] (getMethod ov m pl)
      callWith pos g first (backTo pos (starEach [] X.env)) (backToKw pos (keywordEach [⟨some n, e, kpos⟩] X.env))) := by rfl) :
    PE X (.Call (.Attribute o m apos) [] [⟨some n, e, kpos⟩] pos) (tMethKw C m sp E ta te) := by
  refine ⟨fun pins s σ H Q I h => PySem.W.methodCall_KW (pl := pl) (thn (he.run pins s σ H _ I h) fun u s1 ⟨x, H1, I1, rx, a, dx, fs, ex, ea, l, q⟩ => ?_) ht⟩
  subst ex
  obtain rfl : u = Value.ref a := rx
  refine getmeth_ok I1 ea c hm l (PySem.W.callWith_KW0 (first := [.ref a]) (h₀ := X.base) I.ok.mod.kin hm.kp hall ?_ hpl)
  refine wpAny_evalAll_cons (wpAny_bind (thn (hv.run pins s1 σ H1 _ I1 q) fun v s2 ⟨y, H2, I2, r, q2⟩ => wpAny_bind (wpAny_standAt (wpAny_pure (wpAny_evalAll_nil ⟨I2.kIn, ?_⟩)))))
  refine wpAny_call (codeAny_mono (F.run X.A X.stack s2 H2 ⟨[.ref a], [(n, v)]⟩ [.ref a, v] [.ref a, y] Q E hr I2.env0 (hb s2 _ _) (.cons rfl (.cons r .nil)) q2) fun r s' hq => ?_)
  cases r with
  | error e => exact hx pins σ H2 s2 e s' I2 hq
  | ok fl =>
    cases fl with
    | ret u => exact I2.after hq
    | next => exact False.elim hq
    | brk => exact False.elim hq
    | cont => exact False.elim hq
end
end K29
set_option Elab.async false
set_option linter.all false
set_option maxRecDepth 100000
set_option maxHeartbeats 4000000
/-! _law_refused_right. -/
namespace K29
open PySem PySem.Spec PyProof.Rows L2 Evl LamX
/-- the tables of the three defs that make lambdas, with the names of what they make -/
def tabT (K : PySem.W.Frag) : List (Addr × Str) := tf.map fun p => ((He.cT K p).2, p.1 ++ ".<locals>." ++ "<lambda>")
def Tn (K : PySem.W.Frag) : Prop := ∀ p ∈ tabT K, ∀ q ∈ tabT K, p.1 = q.1 → p.2 = q.2
section
variable {P : Program} {w : World} {K : PySem.W.Frag} {mg : Str → Option Value} {base : Heap}
abbrev nsQ : List Str := ["_law_ladder", "_law_held", "_law_odd", "_law_given"]
theorem sc_law_refused : FnScope nsQ ["_law_ladder", "_law_held"] (defScope s_law_refused_right) := ⟨rfl, rfl, rfl, by decide +kernel, rfl, by decide +kernel, by decide +kernel⟩
theorem x_c {σ : L2.St} {H : Hp} {v : V} {Q : VK} (h : Q v H) : tC v σ H Q := h
theorem x_cb {σ : L2.St} {H : Hp} {r : List V → Hp → VK → Prop} {t : TA} {Q : VK} (h : t σ H fun vs H1 => r vs H1 Q) : tCB r t σ H Q := h
theorem el_listP {σ : L2.St} {H : Hp} {te : TE} {ns : List Str} (h : EvP te σ H (NewT ns)) : EvL (tCB (fun xs H Q => ∃ p ys, xs = [.ref p] ∧ (SqL K H p ys ∨ SqT K H p ys) ∧ ∀ l, H l = none → Q (.ref l) (upd H l (.lst ys))) (tCons te tNil)) σ H (ns.map V.str) := fun H1 e Q q =>
  h H1 e _ fun v H2 e2 r => by
    obtain ⟨p, rfl, hp⟩ := r
    exact ⟨p, _, rfl, .inr (st_of hp), fun l hl => q l _ (fresh_back e2 hl) (e2.trans (Ex.new hl)) upd_same⟩
/-- all but the tables stay -/
def spRefused (K : PySem.W.Frag) : Sp := fun vs H Q _ => ∃ (l a s : Addr) (rows ks : List Str) (nd : Str → List Str) (m : Int) (c : Str → Int), vs = [.ref l, .ref a] ∧ KeepAt K H a s rows nd m ks c ∧ Sht rows nd ∧ KOk rows nd m ks c ∧ 0 ≤ m ∧ ("zq" : Str) ∉ rows ∧ Tabs (tabT K) H ∧ ∀ H2, ExtN H H2 → Tabs (tabT K) H2 → Q (.bl true) H2
theorem ok_law_refused (T : Tx K mg) (N3 : Tn K) (TB : ∀ p ∈ tf, TabB base mg (He.cT K p).1 (He.cT K p).2) : FnG P w K mg base 12 (He.ga K "_law_refused_right") (spRefused K) := by
  have G1 := ok_raised (P := P) (w := w) (base := base) T
  have G2 := ok_Keep_kept (P := P) (w := w) (base := base) T
  obtain ⟨fh, FH⟩ := T.d_law_heard
  have kph := FH.kp
  have bh := FH.bindsN (ps := ["_law_ask"]) fun _ _ _ _ _ _ us hl => match us, hl with | [_], _ => rfl
  obtain ⟨oc, od, dV, kV, doc, pm, an, cdv, ct, osl, rfl, lk, hcd, _, _⟩ := FH.ex
  have hnd := sc_law_refused.nd
  refine fng (p := ("_law_refused_right", none)) T.d_law_refused_right sc_law_refused (fun _ _ _ _ _ _ us hl => match us, hl with | [_, _], _ => rfl) (fun vs H Q E h => by obtain ⟨l, a, s, rows, ks, nd, m, c, rfl, _⟩ := h; rfl) fun A outer s0 H vs Q E hr hgd h => ?_
  obtain ⟨l, a, s, rows, ks, nd, m, c, rfl, Ke, D, O, hm, hzq, ht, k⟩ := h
  have hmT : ((He.cT K ("_law_refused_right", none)).2, ("_law_refused_right" : Str) ++ ".<locals>." ++ "<lambda>") ∈ tabT K := List.mem_map.mpr ⟨("_law_refused_right", none), List.mem_cons_self, rfl⟩
  refine ⟨_, pss_cons (ps_asg (pe_op op_cat (pe_lst (pa_cons pe_non (pa_cons pe_bl (pa_cons pe_int (pa_cons pe_str (pa_cons pe_str (pa_cons pe_str (pa_cons (pe_tup pa_nil) (pa_cons (pe_lst pa_nil) (pa_cons pe_dnewK (pa_cons (pe_tup (pa_cons pe_str pa_nil)) (pa_cons (pe_op op_pow pe_int pe_int) pa_nil)))))))))))) (pe_callTy call_list_of (by rfl) T.f_list cs_list (pa_cons (pe_get (E := E0) (pv 1) T.c_Keep T.p_Keep_kept G2 (hr.mono (by decide))) pa_nil))) (pg_name (i := 2) hnd rfl (Or.inl rfl)))
    (pss_cons (ps_for PassesOwn.never rfl (pi_list (pv 2)) (pg_name (i := 3) hnd rfl (Or.inr rfl))
      (pss_one (ps_if (pt_cmpR op_ne (pe_callB (cr_reprW hgd hr.units) (by rfl) T.f_repr bi_repr (pa_cons (pe_lamcall (T := tabT K) (TT := THeard K) (k := 9) (t := fun E => tMethR (cK K) "raised" (spRaised K) E (tVar 1) (tCons (tVar 3) tNil)) (by rfl) T.g_law_heard kph lk hcd bh sc_law_heard rfl (Or.inl rfl) (heard_gives T) (TB ("_law_refused_right", none) List.mem_cons_self) rfl hmT (fun p hp e => N3 p hp _ hmT e) hr (lamS_by (by rfl)) rfl (fun _ _ _ _ _ => rfl)
          (fun A2 outer2 s2 H2 E2 f2 c2 hr2 => pe_methR (pv 1) T.c_Keep T.m_Keep_raised G1 (hr2.mono (by decide)) (passE (E := E2) rfl rfl rfl rfl) (pa_cons (pv 3) pa_nil))) pa_nil)) (pe_callB (cr_reprW hgd hr.units) (by rfl) T.f_repr bi_repr (pa_cons (pe_tup (pa_cons pe_str (pa_cons (pv 3) (pa_cons pe_bl (pa_cons pe_bl pa_nil))))) pa_nil)) (nomark _)) pss_dead pss_nil)))
    (pss_one (ps_ret pe_bl))), ?_⟩
  have z0 : ([] : List V).length ≤ sizeLine := sz_of (by show 0 ≤ 100000; decide)
  refine x_asg (x_op (x_lst (x_cons (x_c (x_cons (x_c (x_cons (x_c (x_cons (x_c (x_cons (x_c (x_cons (x_c (x_cons (x_tup (x_nil ⟨z0, fun q0 h0 => ?_⟩)))))))))))))))))
  have e1 : Ex H (upd H q0 (.tup [])) := Ex.new h0
  have f0 : (upd H q0 (.tup [])) q0 = some (.tup []) := upd_same
  generalize upd H q0 (.tup []) = H1 at *
  refine x_cons (x_lst (x_nil ⟨z0, fun l0 hl0 => ?_⟩))
  have e2 : Ex H1 (upd H1 l0 (.lst [])) := Ex.new hl0
  have f1 : (upd H1 l0 (.lst [])) l0 = some (.lst []) := upd_same
  generalize upd H1 l0 (.lst []) = H2 at *
  refine x_cons fun d0 hd0 => ?_
  have e3 : Ex H2 (upd H2 d0 (.dK [])) := Ex.new hd0
  have f2 : (upd H2 d0 (.dK [])) d0 = some (.dK []) := upd_same
  generalize upd H2 d0 (.dK []) = H3 at *
  refine x_cons (x_tup (x_cons (x_c (x_nil ⟨sz_of (by show 1 ≤ 100000; decide), fun q1 hq1 => ?_⟩))))
  have e4 : Ex H3 (upd H3 q1 (.tup [.str "a"])) := Ex.new hq1
  have f3 : (upd H3 q1 (.tup [.str "a"])) q1 = some (.tup [.str "a"]) := upd_same
  generalize upd H3 q1 (.tup [.str "a"]) = H4 at *
  refine x_cons (x_op (x_c (x_c ⟨10, 30, rfl, rfl, ⟨by decide, by decide, by decide⟩, x_nil ⟨sz_of (by show 11 ≤ 100000; decide), fun ol hol => ?_⟩⟩)))
  let odds : List V := [.non, .bl true, .int 0, .str "zq", .str "A", .str "", .ref q0, .ref l0, .ref d0, .ref q1, .int ((10 : Int) ^ (30 : Int).toNat)]
  change (tCB _ _) _ (upd H4 ol (.lst odds)) _
  have e5 : Ex H4 (upd H4 ol (.lst odds)) := Ex.new hol
  have f4 : (upd H4 ol (.lst odds)) ol = some (.lst odds) := upd_same
  generalize upd H4 ol (.lst odds) = H5 at *
  have e05 : Ex H H5 := e1.trans (e2.trans (e3.trans (e4.trans e5)))
  obtain ⟨dx, o, be, byy, ky, z, bks, bl, h1, _⟩ := Ke.ex_
  have hkl := keyL_len rows ks
  have hrl := D.len
  refine el_listP (K := K) (σ := [some (.ref l), some (.ref a), none, none]) (H := H5) (te := tGet (cK K) (spKept K) E0 (tVar 1)) (evp_get (ev_var rfl) (e05 _ _ h1) fun H6 e Q k => ⟨a, s, rows, ks, nd, m, c, rfl, Ke.ex (e05.trans e), by omega, k⟩) H5 (Ex.refl H5) _ fun p H6 hp e6 h6 => ?_
  refine ⟨ol, p, odds, _, rfl, rfl, e6 _ _ f4, h6, sz_of (by rw [List.length_map]; show 11 + _ ≤ 100000; omega), fun L hL => ?_⟩
  have e7 : Ex H6 (upd H6 L (.lst (odds ++ (keyL rows ks).map V.str))) := Ex.new hL
  have f7 : (upd H6 L (.lst (odds ++ (keyL rows ks).map V.str))) L = some (.lst (odds ++ (keyL rows ks).map V.str)) := upd_same
  generalize upd H6 L (.lst (odds ++ (keyL rows ks).map V.str)) = H7 at *
  have e57 := e6.trans e7
  have e07 := e05.trans e57
  change tSeq _ _ _ [some (.ref l), some (.ref a), some (.ref L), none] H7
  -- the values
  have odd : ∀ x ∈ odds ++ (keyL rows ks).map V.str, ∃ d, OddV H7 x d ∧ (∀ H', OddV H' x d → Refus K H' rows ks x) ∧ (PyData.tuple [.str "moved", d, .bool true, .bool false]).shown.length ≤ sizeLine := by
    intro x hx
    have nstr : ∀ {v : V}, (∀ z, v ≠ .str z) → ∀ z, v = .str z → z ∉ rows ∨ z ∈ ks := fun h z e => absurd e (h z)
    have e57N : ∀ {a o}, H5 a = some o → H7 a = some o := fun h => e57 _ _ h
    have f0' : H7 q0 = some (.tup []) := e57N ((e2.trans (e3.trans (e4.trans e5))) _ _ f0)
    have f1' : H7 l0 = some (.lst []) := e57N ((e3.trans (e4.trans e5)) _ _ f1)
    have f2' : H7 d0 = some (.dK []) := e57N ((e4.trans e5) _ _ f2)
    have f3' : H7 q1 = some (.tup [.str "a"]) := e57N (e5 _ _ f3)
    rcases List.mem_append.mp hx with h | h
    · have h' : x = .non ∨ x = .bl true ∨ x = .int 0 ∨ x = .str "zq" ∨ x = .str "A" ∨ x = .str "" ∨ x = .ref q0 ∨ x = .ref l0 ∨ x = .ref d0 ∨ x = .ref q1 ∨ x = .int ((10 : Int) ^ (30 : Int).toNat) := by simpa [odds] using h
      rcases h' with rfl | rfl | rfl | rfl | rfl | rfl | rfl | rfl | rfl | rfl | rfl
      · exact ⟨_, .non, fun H' o => refus_of o (nstr fun z e => nomatch e), sh4 (by decide +kernel)⟩
      · exact ⟨_, .bl, fun H' o => refus_of o (nstr fun z e => nomatch e), sh4 (by decide +kernel)⟩
      · exact ⟨_, .int (by decide +kernel), fun H' o => refus_of o (nstr fun z e => nomatch e), sh4 (by decide +kernel)⟩
      · exact ⟨_, .str _, fun H' o => refus_of o (fun z e => by injection e with e; subst e; exact .inl hzq), sh4 (by decide +kernel)⟩
      · exact ⟨_, .str _, fun H' o => refus_of o (fun z e => by injection e with e; subst e; exact .inl fun hr => by have := (D.nam _ hr).2.2 65 (by decide +kernel); omega), sh4 (by decide +kernel)⟩
      · exact ⟨_, .str _, fun H' o => refus_of o (fun z e => by injection e with e; subst e; exact .inl fun hr => by have := (D.nam _ hr).1; exact absurd this (by decide +kernel)), sh4 (by decide +kernel)⟩
      · exact ⟨_, .tup0 f0', fun H' o => refus_of o (nstr fun z e => nomatch e), sh4 (by decide +kernel)⟩
      · exact ⟨_, .lst0 f1', fun H' o => refus_of o (nstr fun z e => nomatch e), sh4 (by decide +kernel)⟩
      · exact ⟨_, .dict f2', fun H' o => refus_of o (nstr fun z e => nomatch e), sh4 (by decide +kernel)⟩
      · exact ⟨_, .tupA f3', fun H' o => refus_of o (nstr fun z e => nomatch e), sh4 (by decide +kernel)⟩
      · exact ⟨_, .int (by decide +kernel), fun H' o => refus_of o (nstr fun z e => nomatch e), sh4 (by decide +kernel)⟩
    · obtain ⟨r, hr, rfl⟩ := List.mem_map.mp h
      have hrk := mem_keyL.mp hr
      have nm := D.nam r hrk.1
      refine ⟨_, .str _, fun H' o => refus_of o (fun z e => by injection e with e; subst e; exact .inr hrk.2), sh4 ?_⟩
      have := PySem.StrLaws.reprText_len r fun c hc => by have := (nm.2.2 c hc).2; omega
      have h8 := nm.2.1
      show (reprText r).length ≤ 1000
      omega
  have wk := walk_list (K := K) (a := L) (xs := odds ++ (keyL rows ks).map V.str)
  refine q_forWn wk (fun i σ' H' => ExtN H7 H' ∧ Tabs (tabT K) H' ∧ ∃ v, σ' = [some (.ref l), some (.ref a), some (.ref L), v]) (fun R k' => ⟨.ref L, rfl, L, rfl, ⟨_, sq_of f7⟩, k' H7 (Ex.refl H7) ⟨ExtN.refl H7, ht.ext e07, _, rfl⟩⟩) (fun i σ' H' _ pv => sq_of (pv.1 _ _ f7 fun ps => (fun z => nomatch z))) (fun i x σ' H8 H9 hi pv y => ?_) fun σ' H8 pv => ?_
  · obtain ⟨p1, p2, v, rfl⟩ := pv
    obtain ⟨rfl, hx⟩ := y
    obtain ⟨d, od, rf, shl⟩ := odd x (List.mem_of_getElem? hx)
    change tIfS _ _ _ _ [some (.ref l), some (.ref a), some (.ref L), some x] H9
    have Ke9 : KeepAt K H9 a s rows nd m ks c := (Ke.ex e07).extN p1
    have od9 := od.extN p1
    refine ⟨p2, fun H10 e10 t10 E' Q' hQ hE => ?_⟩
    have Ke10 := Ke9.extN e10
    obtain ⟨dx2, o2, be2, byy2, ky2, zz2, bks2, bl2, g1, _⟩ := Ke10.ex_
    refine ⟨.ref a, rfl, a, dx2, _, rfl, g1, by rfl, x, rfl, a, s, rows, ks, nd, m, c, x, rfl, Ke10, D, O, hm, .inl ⟨?_, fun dd H11 nn e11 h11 => hE _ _ _ ⟨dd, _, x, rfl, h11, .inl ⟨rfl, rfl, fun q hq => ?_⟩⟩⟩⟩
    · exact rf _ (od9.extN e10)
    · have e1011 : ExtN H9 (upd H11 q (.tup [.str "moved", x, .bl true, .bl false])) := e10.trans ((ExtN.of e11).trans (ExtN.of (Ex.new hq)))
      have hs : (PyData.tuple [.str "moved", d, .bool true, .bool false]).showable = true := by simp [PyData.showable, PyData.showableAll, od.show.1]
      have hd : (PyData.tuple [.str "moved", d, .bool true, .bool false]).depth ≤ 60 := by
        have := od.show.2
        simp only [PyData.depth, PyData.depthAll]
        omega
      refine ⟨q, _, rfl, .told (st_of upd_same) (od9.extN e1011).rd, hs, hd, shl, ?_⟩
      have t12 : Tabs (tabT K) (upd H11 q (.tup [.str "moved", x, .bl true, .bl false])) := t10.ext (e11.trans (Ex.new hq))
      generalize upd H11 q (.tup [.str "moved", x, .bl true, .bl false]) = H12 at *
      refine x_cb (x_cons (x_tup (x_cons (x_c (x_cons (x_ev (v := x) (ev_var rfl) fun H13 e13 => x_cons (x_c (x_cons (x_c (x_nil ⟨sz_of (by show 4 ≤ 100000; decide), fun q2 hq2 => ?_⟩))))))))))
      have e13' : Ex H12 (upd H13 q2 (.tup [.str "moved", x, .bl true, .bl false])) := e13.trans (Ex.new hq2)
      refine x_nil ⟨q2, _, rfl, .told (st_of upd_same) ((od9.extN e1011).extN (ExtN.of e13')).rd, hs, hd, shl, rfl, _, rfl, ?_⟩
      rw [decide_eq_true rfl]
      exact ⟨(p1.trans e1011).trans (ExtN.of e13'), t12.ext e13', _, rfl⟩
  · obtain ⟨p1, p2, v, rfl⟩ := pv
    refine x_ret (x_c (k H8 (ExtN.trans (ExtN.of e07) p1) p2))
end
end K29
set_option Elab.async false
set_option linter.all false
set_option maxRecDepth 100000
set_option maxHeartbeats 4000000
/-! All but the pen and but the tables stays. -/
namespace K29
open PySem PySem.Spec PyProof.Rows L2 Evl LamX
def ExP (p : Addr) (H H' : Hp) : Prop := ∀ b o, b ≠ p → (∀ ps, o ≠ .tbl ps) → H b = some o → H' b = some o
theorem ExP.refl {p : Addr} (H : Hp) : ExP p H H := fun _ _ _ _ h => h
theorem ExP.trans {p : Addr} {H H1 H2 : Hp} (x : ExP p H H1) (y : ExP p H1 H2) : ExP p H H2 := fun b o n t h => y b o n t (x b o n t h)
theorem ExP.ofB {p : Addr} {H H' : Hp} (e : ExB p H H') : ExP p H H' := fun b o n _ h => e b o n h
theorem ExP.ofN {p : Addr} {H H' : Hp} (e : ExtN H H') : ExP p H H' := fun b o _ t h => e b o h t
theorem ExP.ofE {p : Addr} {H H' : Hp} (e : Ex H H') : ExP p H H' := fun b o _ _ h => e b o h
theorem Pen.extN {H H' : Hp} {p c : Addr} {t : Nat} (k : Pen H p c t) (e : ExtN H H') : Pen H' p c t := let ⟨ns, u, g, k1, k2⟩ := k; ⟨ns, u, g, ⟨e _ _ k1.hp (fun ps z => nomatch z), e _ _ k1.hc (fun ps z => nomatch z), k1.ne, k1.gr⟩, k2⟩
theorem Tabs.exB {T : List (Addr × Str)} {H H' : Hp} {p c : Addr} {t : Nat} (k : Tabs T H) (N : Pen H p c t) (e : ExB p H H') : Tabs T H' := by
  obtain ⟨ns, u, g, k1, _⟩ := N
  intro q hq
  obtain ⟨ps, h1, h2, h3⟩ := k q hq
  refine ⟨ps, e _ _ (fun z => by rw [z, k1.hp] at h1; cases h1) h1, h2, fun pos cv hc => ?_⟩
  obtain ⟨c, e1, e2⟩ := h3 pos cv hc
  exact ⟨c, e1, e _ _ (fun z => by rw [z, k1.hp] at e2; cases e2) e2⟩
theorem st_exP {K : PySem.W.Frag} {H H' : Hp} {p c a : Addr} {t : Nat} {xs : List V} (e : ExP p H H') (N : Pen H p c t) (h : SqT K H a xs) : SqT K H' a xs := by
  obtain ⟨ns, u, g, k1, _⟩ := N
  rcases h with h | h
  · exact .inl (h.elim (fun h => .inl (e _ _ (fun z => by rw [z, k1.hp] at h; cases h) (fun ps z => nomatch z) h)) fun ⟨o, h⟩ => .inr ⟨o, e _ _ (fun z => by rw [z, k1.hp] at h; cases h) (fun ps z => nomatch z) h⟩)
  · exact .inr h
theorem KeepAt.exP {K : PySem.W.Frag} {H H' : Hp} {a s p cc : Addr} {t : Nat} {rows : List Str} {nd : Str → List Str} {m : Int} {ks : List Str} {c : Str → Int} (k : KeepAt K H a s rows nd m ks c) (e : ExP p H H') (N : Pen H p cc t) : KeepAt K H' a s rows nd m ks c := by
  obtain ⟨dx, o, be, byy, ky, z, bks, bl, h1, h2, h3, h4, h5, h6, h7, h8⟩ := k.ex_
  obtain ⟨ad, hb1, hb2⟩ := h4.ex_
  obtain ⟨ad2, hc1, hc2⟩ := h8.ex_
  obtain ⟨dy, n, d, o2, z2, ad3, g1, g2, g3⟩ := h2.ex_
  have st := st_exP e N hc1
  obtain ⟨ns, u, g, k1, _⟩ := N
  have go : ∀ {b : Addr} {w : HO}, H b = some w → w ≠ .lst [.ref cc, .int u, .int g] → (∀ ps, w ≠ .tbl ps) → H' b = some w := fun {b w} h n t => e _ _ (fun z => by rw [z, k1.hp] at h; exact n (Option.some.inj h).symm) t h
  exact ⟨dx, o, be, byy, ky, z, bks, bl, go h1 (fun z => nomatch z) (fun ps z => nomatch z), ⟨dy, n, d, o2, z2, ad3, go g1 (fun z => nomatch z) (fun ps z => nomatch z), ⟨g2.ln, g2.ld, go g2.hn (fun z => nomatch z) (fun ps z => nomatch z), go g2.hd (fun z => nomatch z) (fun ps z => nomatch z), fun r hr => go (g2.ha r hr) (fun z => nomatch z) (fun ps z => nomatch z)⟩, go g3 (fun z => nomatch z) (fun ps z => nomatch z)⟩,
    go h3 (fun z => nomatch z) (fun ps z => nomatch z), ⟨ad, go hb1 (fun z => nomatch z) (fun ps z => nomatch z), fun r hr => go (hb2 r hr) (fun z => nomatch z) (fun ps z => nomatch z)⟩, h5, h6, go h7 (fun z => nomatch z) (fun ps z => nomatch z), ⟨ad2, st, fun i d hi => go (hc2 i d hi) (fun z => nomatch z) (fun ps z => nomatch z)⟩⟩
end K29
set_option Elab.async false
set_option linter.all false
set_option maxRecDepth 100000
set_option maxHeartbeats 4000000
/-! repr of a tuple of copies: its length, what it asks. -/
namespace K29
open PySem PySem.Spec PyProof.Rows L2 Evl LamX
theorem int_short : ∀ i : Fin 61, (((toString ((i.val : Nat) : Int) : String) : Str)).length ≤ 2 := by decide +kernel
theorem piled_le {b : Nat} : ∀ {ts : List Str}, (∀ t ∈ ts, t.length ≤ b) → piled ts ≤ ts.length * (b + 2)
  | [], _ => Nat.zero_le _
  | t :: ts, h => by
    have h1 := h t List.mem_cons_self
    have h2 := piled_le (b := b) (ts := ts) fun u hu => h u (List.mem_cons_of_mem _ hu)
    rw [piled_cons, List.length_cons, Nat.add_mul, Nat.one_mul]
    omega
theorem tupleText_le {ts : List Str} {b : Nat} (h : ∀ t ∈ ts, t.length ≤ b) : (tupleText ts).length ≤ ts.length * (b + 2) + 4 := by
  have hp := piled_le h
  have h4 : (((if ts.length == 1 then ",)" else ")" : String) : Str)).length ≤ 2 := by split <;> decide
  have h5 : ("(" : Str).length = 1 := rfl
  have hj : (Str.join ", " ts).length ≤ piled ts := by
    cases ts with
    | nil => exact Nat.le_refl 0
    | cons t r =>
      have := join_length_add (t :: r) (by simp)
      omega
  unfold tupleText
  rw [Str.length_append, Str.length_append]
  omega
theorem cp_shown {c : Str × Int} (hn : IsName c.1) (h0 : 0 ≤ c.2) (h1 : c.2 ≤ 60) : (cpD c).shown.length ≤ 200 ∧ (cpD c).showable = true ∧ (cpD c).hasDict = false := by
  have e : (cpD c).shown = tupleText [reprText c.1, ((toString c.2 : String) : Str)] := by simp [cpD, PyData.shown, PyData.shownAll]
  have l1 := PySem.StrLaws.reprText_len c.1 fun d hd => by have := (hn.2.2 d hd).2; omega
  have l2 : (((toString c.2 : String) : Str)).length ≤ 2 := by
    have := int_short ⟨c.2.toNat, by omega⟩
    have e2 : ((c.2.toNat : Nat) : Int) = c.2 := Int.toNat_of_nonneg h0
    dsimp only at this
    rw [e2] at this
    exact this
  have h8 := hn.2.1
  refine ⟨?_, ?_, by simp [cpD, PyData.hasDict, PyData.hasDictAll]⟩
  · rw [e]
    have := tupleText_le (ts := [reprText c.1, ((toString c.2 : String) : Str)]) (b := 82) fun t ht => by
      rcases List.mem_cons.mp ht with h | h
      · rw [h]; omega
      · rw [List.mem_singleton.mp h]; omega
    have e3 : ([reprText c.1, ((toString c.2 : String) : Str)] : List Str).length = 2 := rfl
    rw [e3] at this
    omega
  · have : c.2.natAbs.log2 < 1920 := by
      have h2 : c.2.natAbs ≤ 60 := by omega
      have h3 : c.2.natAbs.log2 ≤ c.2.natAbs := Nat.log2_le_self _
      omega
    simp [cpD, PyData.showable, PyData.showableAll, this]
theorem cps_shown {cs : List (Str × Int)} (hl : cs.length ≤ 12) (h : ∀ c ∈ cs, IsName c.1 ∧ 0 ≤ c.2 ∧ c.2 ≤ 60) : (PyData.tuple (cs.map cpD)).shown.length ≤ sizeLine ∧ (PyData.tuple (cs.map cpD)).showable = true ∧ (PyData.tuple (cs.map cpD)).hasDict = false ∧ (PyData.tuple (cs.map cpD)).depth ≤ 60 := by
  have sa : ∀ ds : List PyData, PyData.shownAll ds = ds.map PyData.shown := fun ds => by
    induction ds with
    | nil => simp [PyData.shownAll]
    | cons d ds ih => simp [PyData.shownAll, ih]
  refine ⟨sz_of ?_, ?_, ?_, ?_⟩
  · have e : (PyData.tuple (cs.map cpD)).shown = tupleText ((cs.map cpD).map PyData.shown) := by simp only [PyData.shown, sa]
    rw [e]
    have := tupleText_le (ts := (cs.map cpD).map PyData.shown) (b := 200) fun t ht => by
      obtain ⟨d, hd, rfl⟩ := List.mem_map.mp ht
      obtain ⟨c, hc, rfl⟩ := List.mem_map.mp hd
      exact (cp_shown (h c hc).1 (h c hc).2.1 (h c hc).2.2).1
    rw [List.length_map, List.length_map] at this
    omega
  · simp only [PyData.showable]
    clear hl
    induction cs with
    | nil => simp [PyData.showableAll]
    | cons c cs ih =>
      simp only [List.map_cons, PyData.showableAll, Bool.and_eq_true]
      exact ⟨(cp_shown (h c List.mem_cons_self).1 (h c List.mem_cons_self).2.1 (h c List.mem_cons_self).2.2).2.1, ih fun d hd => h d (List.mem_cons_of_mem _ hd)⟩
  · simp only [PyData.hasDict]
    clear hl
    induction cs with
    | nil => simp [PyData.hasDictAll]
    | cons c cs ih =>
      simp only [List.map_cons, PyData.hasDictAll, Bool.or_eq_false_iff]
      exact ⟨(cp_shown (h c List.mem_cons_self).1 (h c List.mem_cons_self).2.1 (h c List.mem_cons_self).2.2).2.2, ih fun d hd => h d (List.mem_cons_of_mem _ hd)⟩
  · have := all_depth cpD 1 cs fun x _ => cp_depth x
    simp only [PyData.depth]
    omega
end K29
set_option Elab.async false
set_option linter.all false
set_option maxRecDepth 100000
set_option maxHeartbeats 4000000
/-! Lists of texts sorted, repr of copies, what _law_raised_right looks at. -/
namespace K29
open PySem PySem.Spec PyProof.Rows L2 Evl LamX
/-! ### two sorted lists of the same texts are the same list -/
theorem risingS_pw : ∀ (p : Str) (l : List Str), risingS p l = true → (p :: l).Pairwise (fun a b => a.cps.toList ≤ b.cps.toList)
  | p, [], _ => List.pairwise_singleton _ _
  | p, x :: r, h => by
    have h' : (!ltCps x.cps.toList p.cps.toList && risingS x r) = true := h
    rw [Bool.and_eq_true] at h'
    have h2 := risingS_pw x r h'.2
    have h1 : p.cps.toList ≤ x.cps.toList := by
      have := h'.1
      rw [ltCps_eq, Bool.not_eq_true', decide_eq_false_iff_not] at this
      exact List.not_lt.mp this
    refine List.Pairwise.cons (fun y hy => ?_) h2
    rcases List.mem_cons.mp hy with rfl | hy
    · exact h1
    · exact List.le_trans h1 (List.rel_of_pairwise_cons h2 hy)
theorem sortedS_pw : ∀ (l : List Str), sortedS l = true → l.Pairwise (fun a b => a.cps.toList ≤ b.cps.toList)
  | [], _ => .nil
  | x :: r, h => risingS_pw x r h
theorem sortedS_eq {xs ys : List Str} (h1 : sortedS xs = true) (h2 : sortedS ys = true) (p : xs.Perm ys) : xs = ys :=
  List.Perm.eq_of_pairwise (le := fun a b : Str => a.cps.toList ≤ b.cps.toList) (fun a b _ _ h h' => Str.ext' (Array.toList_inj.mp (List.le_antisymm h h'))) (sortedS_pw _ h1) (sortedS_pw _ h2) p
/-- a new sorted list of these texts -/
def SortOf (xs : List Str) : V → Hp → Prop := fun v H2 => ∃ (q : Addr) (ys : List Str), v = .ref q ∧ H2 q = some (.lst (ys.map V.str)) ∧ ys.Perm xs ∧ sortedS ys = true
section
variable {K : PySem.W.Frag} {σ : L2.St} {H H' : Hp} {te ta tb : TE}
theorem evp_sortU {xs : List Str} (h : EvP te σ H (NewT xs)) (hl : xs.length < 64) : EvP (tCB (rSortU K) (tCons te tNil)) σ H (SortOf xs) := fun H1 e Q q =>
  h H1 e _ fun v H2 e2 r => by
    obtain ⟨p, rfl, hp⟩ := r
    exact ⟨p, xs, rfl, st_of hp, hl, fun ys l h1 h2 hn => q _ _ (e2.trans (Ex.new hn)) ⟨l, ys, rfl, upd_same, h1, h2⟩⟩
theorem evp_sortS {xs : List Str} (h : EvL te σ H (xs.map V.str)) (hl : xs.length < 64) : EvP (tCB (rSortedS K) (tCons te tNil)) σ H (SortOf xs) := fun H1 e Q q =>
  h H1 e _ fun p H2 _ e2 hp => ⟨p, xs, rfl, sq_of hp, hl, fun ys l h1 h2 hn => q _ _ (e2.trans (Ex.new hn)) ⟨l, ys, rfl, upd_same, h1, h2⟩⟩
theorem el_cat2 {xs ys : List V} (ha : EvL ta σ H xs) (hb : EvL tb σ H ys) (hz : xs.length + ys.length ≤ 100000) : EvL (tOp rCat ta tb) σ H (xs ++ ys) := fun H1 e Q q =>
  ha H1 e _ fun p H2 _ e2 h2 => hb H2 (e.trans e2) _ fun r H3 _ e3 h3 => ⟨p, r, xs, ys, rfl, rfl, e3 _ _ h2, h3, big_le hz, fun l hl => q l _ (fresh_back (e2.trans e3) hl) ((e2.trans e3).trans (Ex.new hl)) upd_same⟩
theorem ev_neSort {xs ys : List Str} (ha : EvP ta σ H (SortOf xs)) (hb : EvP tb σ H (SortOf ys)) (hp : xs.Perm ys) (ok : ∀ x ∈ xs, PyData.strOk x = true) : Ev (tOp (rNeD K) ta tb) σ H (.bl false) := fun H1 e Q q =>
  ha H1 e _ fun u H2 e2 r => hb H2 (e.trans e2) _ fun v H3 e3 r' => by
    obtain ⟨p, us, rfl, h1, h2, h3⟩ := r
    obtain ⟨p', us', rfl, g1, g2, g3⟩ := r'
    have eq := sortedS_eq h3 g3 ((h2.trans hp).trans g2.symm)
    subst eq
    have shp : SeqAt.shaped (.list (us.map PyData.str)) = true := shaped_SL fun x hx => ok x (h2.mem_iff.mp hx)
    refine ⟨_, _, .lst (sq_of (e3 _ _ h1)) (dpAll_S _), .lst (sq_of g1) (dpAll_S _), shp, shp, ?_⟩
    have eqv1 : PyData.eqv (.list (us.map PyData.str)) (.list (us.map PyData.str)) = true := by
      simp only [PyData.eqv]
      rw [eqv_map _ eqv_str, decide_eq_true rfl]
    rw [eqv1]
    exact q H3 (e2.trans e3)
/-- repr of a tuple of copies -/
theorem ev_repr {ky : Addr} {cs : List (Str × Int)} (h : Ev te σ H (.ref ky)) (hc : CpsAt K H ky cs) (hl : cs.length ≤ 12) (ok : ∀ c ∈ cs, IsName c.1 ∧ 0 ≤ c.2 ∧ c.2 ≤ 60) :
    Ev (tCB (rReprW K) (tCons te tNil)) σ H (.str (PyData.tuple (cs.map cpD)).shown) := fun H1 e Q q => h H1 e _ fun H2 e2 => by
  obtain ⟨s1, s2, s3, s4⟩ := cps_shown hl ok
  exact ⟨ky, _, rfl, .dp (hc.ex (e.trans e2)).dp s3, s2, s4, s1, q H2 e2⟩
/-- a field of a keep by its property -/
theorem ev_keepF {a : Addr} {f : Str} {v : V} {dx : Addr} {fs : List (Str × V)} (ha : Ev ta σ H (.ref a)) (h1 : H a = some (.ins (cK K) dx fs)) (hf : fs.lookup f = some v) : Ev (tGet (cK K) (spFldK K f) E0 ta) σ H v :=
  ev_get ha h1 fun H1 e Q k => ⟨a, dx, fs, v, rfl, e _ _ h1, hf, k⟩
end
theorem KOk.key {rows : List Str} {nd : Str → List Str} {m : Int} {ks : List Str} {c : Str → Int} (k : KOk rows nd m ks c) (D : Sht rows nd) : KOk rows nd m (keyL rows ks) c :=
  ⟨List.Nodup.sublist List.filter_sublist D.nod, fun r h => (mem_keyL.mp h).1, fun r h => k.rng r (mem_keyL.mp h).2, fun r hr s hs h => k.bar r (mem_keyL.mp hr).2 s (mem_keyL.mp hs).2 h⟩
theorem Lw.exP {H H' : Hp} {l b p cc : Addr} {t : Nat} {rows ks : List Str} {bl : Str → List Str} {al : Str → Addr} (L : Lw H l b rows ks bl al) (x : ExP p H H') (N : Pen H p cc t) (lp : l ≠ p) (alp : ∀ r ∈ ks, al r ≠ p) : Lw H' l b rows ks bl al := by
  obtain ⟨ns, u, g, k1, _⟩ := N
  exact ⟨x _ _ lp (fun ps z => nomatch z) L.hl, ⟨x _ _ (fun z => by have := L.hb.hd; rw [z, k1.hp] at this; cases this) (fun ps z => nomatch z) L.hb.hd, fun r hr => x _ _ (alp r hr) (fun ps z => nomatch z) (L.hb.ha r hr)⟩, L.hk⟩
/-- the rows of the raised keep, in the sheet's order, are the old ones and the new one -/
theorem keyR_perm {rows ks : List Str} {nd : Str → List Str} {n : Str} (D : Sht rows nd) (hn : n ∈ rows) (hk : n ∉ ks) : (keyL rows (ksR rows ks n)).Perm (keyL rows ks ++ [n]) := by
  have n1 : (keyL rows (ksR rows ks n)).Nodup := List.Nodup.sublist List.filter_sublist D.nod
  have n2 : (keyL rows ks ++ [n]).Nodup := nd_snoc (List.Nodup.sublist List.filter_sublist D.nod) fun z => hk (mem_keyL.mp z).2
  refine (List.perm_ext_iff_of_nodup n1 n2).mpr fun r => ?_
  rw [mem_keyL]
  exact ⟨fun h => h.2, fun h => ⟨by
    rcases List.mem_append.mp h with h | h
    · exact (mem_keyL.mp h).1
    · exact List.mem_singleton.mp h ▸ hn, h⟩⟩
end K29
set_option Elab.async false
set_option linter.all false
set_option maxRecDepth 100000
set_option maxHeartbeats 4000000
/-! _law_raised_right. -/
namespace K29
open PySem PySem.Spec PyProof.Rows L2 Evl LamX
section
variable {P : Program} {w : World} {K : PySem.W.Frag} {mg : Str → Option Value} {base : Heap}
abbrev nsV : List Str := ["_law_pen_here", "_law_ladder", "_law_below_here", "_law_held", "_law_title", "_law_kept", "_law_more"]
theorem sc_law_raised : FnScope nsV ["_law_pen_here", "_law_ladder", "_law_below_here", "_law_held"] (defScope s_law_raised_right) := ⟨rfl, rfl, rfl, by decide +kernel, rfl, by decide +kernel, by decide +kernel⟩
def spRR (K : PySem.W.Frag) : Sp := fun vs H Q _ => ∃ (p cc l b a s : Addr) (t : Nat) (rows ks ks0 : List Str) (nd bl : Str → List Str) (al : Str → Addr) (m : Int) (c : Str → Int), vs = [.ref p, .ref l, .ref b, .ref a] ∧ Pen H p cc t ∧ t < 9990 ∧ Lw H l b rows ks0 bl al ∧ l ≠ p ∧ (∀ r ∈ ks0, al r ≠ p) ∧ KeepAt K H a s rows nd m ks c ∧ Sht rows nd ∧ KOk rows nd m ks c ∧ 0 ≤ m ∧
  (∀ r ∈ rows, ∀ q, q ∈ bl r ↔ Dep nd q r) ∧ movL rows ks ≠ [] ∧ (rows.length : Int) * (m + 1) ≤ 120 ∧ m + 1 ≤ 60 ∧ Tabs (tabT K) H ∧
  ∀ n a2 H2, n ∈ movL rows ks → ExP p H H2 → Pen H2 p cc (t + 1) → Tabs (tabT K) H2 → KeepAt K H2 a2 s rows nd (m + 1) (ksR rows ks n) (cR rows nd ks c n) → KOk rows nd (m + 1) (ksR rows ks n) (cR rows nd ks c n) → Q (.ref a2) H2
theorem ok_law_raised (T : Tx K mg) (N3 : Tn K) (TB : ∀ p ∈ tf, TabB base mg (He.cT K p).1 (He.cT K p).2) : FnG P w K mg base 12 (He.ga K "_law_raised_right") (spRR K) := by
  have G1 := ok_raised (P := P) (w := w) (base := base) T
  have G2 := ok_Keep_moved (P := P) (w := w) (base := base) T
  have G3 := ok_law_draw (P := P) (w := w) (base := base) T
  have G4 := ok_Keep_copies (P := P) (w := w) (base := base) T
  obtain ⟨_, D3⟩ := T.d_law_draw
  obtain ⟨_, D7⟩ := T.d_law_is_keep
  obtain ⟨fk, FK, BK⟩ := ok_Keep_eq (P := P) (w := w) (base := base) T
  obtain ⟨fs, FS, BS⟩ := ok_Sheet_eq (P := P) (w := w) (base := base) T
  obtain ⟨fr, FR, GR⟩ := ok_raisedF (P := P) (w := w) (base := base) T
  have G5 := ok_Keep_sheet (P := P) (w := w) (base := base) T
  have G6 := ok_Keep_span (P := P) (w := w) (base := base) T
  have G7 := ok_law_is_keep (P := P) (w := w) (base := base) T
  have G8 := ok_Keep_kept (P := P) (w := w) (base := base) T
  have bR : ∀ (s : Shared) (u v : Value), BindsTo s fr ⟨[u], [("name", v)]⟩ ((["self", "name"] : List Str).zip [u, v]) := by
    obtain ⟨oc2, od2, dV2, kV2, doc2, pm2, an2, cdv2, ct2, osl2, rfl, lk2, hcd2, hD2, hK2⟩ := FR.ex
    rcases hD2 with ⟨_, rfl⟩ | ⟨e, _⟩
    · exact fun s u v => BindsTo.of_eq rfl
    · exact absurd rfl e
  obtain ⟨fh, FH⟩ := T.d_law_heard
  have kph := FH.kp
  have bh := FH.bindsN (ps := ["_law_ask"]) fun _ _ _ _ _ _ us hl => match us, hl with | [_], _ => rfl
  obtain ⟨oc, od, dV, kV, doc, pm, an, cdv, ct, osl, rfl, lk, hcd, _, _⟩ := FH.ex
  have hnd := sc_law_raised.nd
  refine fng (p := ("_law_raised_right", none)) T.d_law_raised_right sc_law_raised (fun _ _ _ _ _ _ us hl => match us, hl with | [_, _, _, _], _ => rfl) (fun vs H Q E h => by obtain ⟨p, cc, l, b, a, s, t, rows, ks, ks0, nd, bl, al, m, c, rfl, _⟩ := h; rfl) fun A outer s0 H vs Q E hr hgd h => ?_
  obtain ⟨p, cc, l, b, a, s, t, rows, ks, ks0, nd, bl, al, m, c, rfl, N, ht, L, lp, alp, Ke, D, O, hm, hbl, hmv, hr1, hr2, hT, k⟩ := h
  have hmT : ((He.cT K ("_law_raised_right", none)).2, ("_law_raised_right" : Str) ++ ".<locals>." ++ "<lambda>") ∈ tabT K := List.mem_map.mpr ⟨("_law_raised_right", none), List.mem_cons_of_mem _ List.mem_cons_self, rfl⟩
  have hK : RcG (cxOf CX0 P w K mg base nsV d_law_raised_right.qual d_law_raised_right.scope (He.fAd K ("_law_raised_right", none)) (.ref (He.cT K ("_law_raised_right", none)).1) A outer s0 H E).nox 3 (DIns (cK K) (SameKe K)) := rcG_ins (E := E0) FK T.m_Keep_eq.at_ T.m_Keep_eq.fn BK pass0
  have hS : RcG (cxOf CX0 P w K mg base nsV d_law_raised_right.qual d_law_raised_right.scope (He.fAd K ("_law_raised_right", none)) (.ref (He.cT K ("_law_raised_right", none)).1) A outer s0 H E).nox 1 (DIns (cS K) (SameSh K)) := rcG_ins (E := E0) FS T.m_Sheet_eq.at_ T.m_Sheet_eq.fn BS pass0
  refine ⟨_, pss_cons (ps_asg (pe_ix ix_tup (pe_get (E := E0) (pv 3) T.c_Keep T.p_Keep_moved G2 (hr.mono (by decide))) (pe_fn G3 (hr.mono (by decide)) (by rfl) T.g_law_draw D3.kp pass0 (pa_cons (pv 0) (pa_cons (pe_callB call_len_seq (by rfl) T.f_len PySem.boot_len (pa_cons (pe_get (E := E0) (pv 3) T.c_Keep T.p_Keep_moved G2 (hr.mono (by decide))) pa_nil)) pa_nil))) fun _ _ => rfl) (pg_name (i := 4) hnd rfl (Or.inr rfl)))
    (pss_cons (ps_asg (pe_callB (cr_reprW hgd hr.units) (by rfl) T.f_repr bi_repr (pa_cons (pe_get (E := E0) (pv 3) T.c_Keep T.p_Keep_copies G4 (hr.mono (by decide))) pa_nil)) (pg_name (i := 5) hnd rfl (Or.inl rfl)))
    (pss_cons (ps_asg (pe_lamcall (T := tabT K) (TT := THeard K) (k := 9) (t := fun E => tMethR (cK K) "raised" (spRaised K) E (tVar 3) (tCons (tVar 4) tNil)) (by rfl) T.g_law_heard kph lk hcd bh sc_law_heard rfl (Or.inl rfl) (heard_gives T) (TB ("_law_raised_right", none) (List.mem_cons_of_mem _ List.mem_cons_self)) rfl hmT (fun p hp e => N3 p hp _ hmT e) hr (lamS_by (by rfl)) rfl (fun _ _ _ _ _ => rfl)
          (fun A2 outer2 s2 H2 E2 f2 c2 hr2 => pe_methR (pv 3) T.c_Keep T.m_Keep_raised G1 (hr2.mono (by decide)) (passE (E := E2) rfl rfl rfl rfl) (pa_cons (pv 4) pa_nil))) (pg_name (i := 6) hnd rfl (Or.inl rfl)))
    (pss_cons (ps_if (PW.pt (pw_or (pt_not (pt_val (pe_callB call_isi (by rfl) T.f_isinstance bi_isinstance (pa_cons (pv 6) (pa_cons (pe_glob (v := .ref (cK K)) (by rfl) T.g_Keep rfl) pa_nil))))) (pw_or (pt_not (pt_cmpR (op_eqG hK (hr.mono (by decide))) (pv 6) (pe_methKw (pv 3) T.c_Keep T.m_Keep_raised GR (hr.mono (by decide)) passL (pv 4) bR) (nomark _)))
        (pw_or1 (pt_not (pt_cmpR (op_eqG hS (hr.mono (by decide))) (pe_get (E := E0) (pv 6) T.c_Keep T.p_Keep_sheet G5 (hr.mono (by decide))) (pe_get (E := E0) (pv 3) T.c_Keep T.p_Keep_sheet G5 (hr.mono (by decide))) (nomark _))))))) pss_dead pss_nil)
    (pss_cons (ps_if (PW.pt (pw_or (pt_cmpR op_ne (pe_get (E := E0) (pv 6) T.c_Keep T.p_Keep_span G6 (hr.mono (by decide))) (pe_op op_add (pe_get (E := E0) (pv 3) T.c_Keep T.p_Keep_span G6 (hr.mono (by decide))) pe_int) (nomark _)) (pw_or1 (pt_not (pt_val (pe_fn G7 (hr.mono (by decide)) (by rfl) T.g_law_is_keep D7.kp pass0 (pa_cons (pv 1) (pa_cons (pv 2) (pa_cons (pe_get (E := E0) (pv 6) T.c_Keep T.p_Keep_span G6 (hr.mono (by decide))) (pa_cons (pe_callTy call_list_of (by rfl) T.f_list cs_list (pa_cons (pe_get (E := E0) (pv 6) T.c_Keep T.p_Keep_copies G4 (hr.mono (by decide))) pa_nil)) pa_nil)))))))))) pss_dead pss_nil)
    (pss_cons (ps_if (PW.pt (pw_or (pt_cmpR (op_neD hr.units) (pe_callB cr_sortU (by rfl) T.f_sorted bi_sorted (pa_cons (pe_get (E := E0) (pv 6) T.c_Keep T.p_Keep_kept G8 (hr.mono (by decide))) pa_nil)) (pe_callB cr_sortedS (by rfl) T.f_sorted bi_sorted (pa_cons (pe_op op_cat (pe_callTy call_list_of (by rfl) T.f_list cs_list (pa_cons (pe_get (E := E0) (pv 3) T.c_Keep T.p_Keep_kept G8 (hr.mono (by decide))) pa_nil)) (pe_lst (pa_cons (pv 4) pa_nil))) pa_nil)) (nomark _)) (pw_or1 (pt_cmpR op_ne (pe_callB (cr_reprW hgd hr.units) (by rfl) T.f_repr bi_repr (pa_cons (pe_get (E := E0) (pv 3) T.c_Keep T.p_Keep_copies G4 (hr.mono (by decide))) pa_nil)) (pv 5) (nomark _))))) pss_dead pss_nil) (pss_one (ps_ret (pv 6)))))))), ?_⟩
  have hrl := D.len
  have hml : (movL rows ks).length ≤ rows.length := List.length_filter_le _ _
  have hm0 : 0 < (movL rows ks).length := List.length_pos_iff.mpr hmv
  have gM : ∀ {σ : L2.St} {H1 : Hp}, σ[3]? = some (some (.ref a)) → Ex H H1 → EvP (tGet (cK K) (spMoved K) E0 (tVar 3)) σ H1 (NewT (movL rows ks)) := fun {σ H1} hσ e => by
    obtain ⟨dx, o, be, byy, ky, z, bks, bl2, h1, _⟩ := Ke.ex_
    exact evp_get (ev_var hσ) (e _ _ h1) fun H2 e2 Q k => ⟨a, s, rows, ks, nd, m, c, rfl, Ke.ex (e.trans e2), by omega, k⟩
  refine x_asg (x_op ?_)
  refine gM rfl (Ex.refl H) H (Ex.refl H) _ fun v H1 e1 r => ?_
  obtain ⟨q1, rfl, hq1⟩ := r
  refine x_draw (size := ((movL rows ks).length : Nat)) (ev_var rfl) (fun H2 e2 Q q => gM rfl (e1.trans e2) H2 (Ex.refl H2) _ fun v H3 e3 r => by
    obtain ⟨q2, rfl, hq2⟩ := r
    exact ⟨q2, (movL rows ks).map V.str, rfl, .inr (st_of hq2), by rw [List.length_map]; exact q H3 e3⟩) (N.ex e1) (by omega) (by omega) (by omega) fun r H2 b2 N2 hr3 => ?_
  have hrlt : r < (movL rows ks).length := by omega
  have hq2 : H2 q1 = some (.tup ((movL rows ks).map V.str)) := b2 _ _ (fun z => by
    obtain ⟨ns, u, g, k1, _⟩ := N.ex e1
    rw [z, k1.hp] at hq1
    cases hq1) hq1
  generalize hn : (movL rows ks)[r] = n
  have hnm : n ∈ movL rows ks := hn ▸ List.getElem_mem hrlt
  refine ⟨q1, _, _, .str n, rfl, rfl, st_of hq2, at_of rfl (by rw [List.getElem?_map, List.getElem?_eq_getElem hrlt, hn]; rfl), ?_⟩
  have x2 : ExP p H H2 := (ExP.ofE e1).trans (ExP.ofB b2)
  have Ke2 := Ke.exP x2 N
  have T2 := K29.Tabs.exB (hT.ext e1) (N.ex e1) b2
  obtain ⟨hnr, hnk⟩ : n ∈ rows ∧ n ∉ ks := by
    have := List.mem_filter.mp (show n ∈ rows.filter _ from hnm)
    exact ⟨this.1, by simpa using this.2⟩
  have hok : ∀ d ∈ cpsOf c (keyL rows ks), IsName d.1 ∧ 0 ≤ d.2 ∧ d.2 ≤ 60 := fun d hd => by
    obtain ⟨q1, q2⟩ := mem_cps hd
    have q3 := mem_keyL.mp q1
    have q4 := O.rng _ q3.2
    rw [q2]
    exact ⟨D.nam _ q3.1, by omega, by omega⟩
  have hcl : (cpsOf c (keyL rows ks)).length ≤ 12 := by
    rw [cps_len]
    have := keyL_len rows ks
    omega
  generalize hz0 : (PyData.tuple ((cpsOf c (keyL rows ks)).map cpD)).shown = z0
  have rp : ∀ {σ : L2.St} {H1 : Hp}, σ[3]? = some (some (.ref a)) → KeepAt K H1 a s rows nd m ks c → Ev (tCB (rReprW K) (tCons (tGet (cK K) (spFldK K "key") E0 (tVar 3)) tNil)) σ H1 (.str z0) := fun hσ ke => by
    obtain ⟨dx, o, be, byy, ky, z, bks, bl2, h1, _, _, _, _, _, _, h8⟩ := ke.ex_
    rw [← hz0]
    exact ev_repr (ev_keepF (ev_var hσ) h1 keF_key) h8 hcl hok
  refine x_asg (x_ev (rp rfl Ke2) fun H3 e3 => ?_)
  have x3 := x2.trans (ExP.ofE e3)
  have Ke3 := Ke2.ex e3
  have T3 := T2.ext e3
  have N3' := N2.ex e3
  refine x_asg ⟨T3, fun H4 e4 T4 => fun E' Q' hQ hE => ?_⟩
  have Ke4 := Ke3.extN e4
  obtain ⟨dx4, o4, be4, byy4, ky4, zz4, bks4, bl4, g1, _⟩ := Ke4.ex_
  refine ⟨.ref a, rfl, a, dx4, _, rfl, g1, by rfl, .str n, rfl, a, s, rows, ks, nd, m, c, .str n, rfl, Ke4, D, O, hm, .inr ⟨n, rfl, hnr, hnk, ⟨fun _ _ O2 v H5 e5 r => ?_, fun g => (g ⟨by omega, by omega⟩).elim, fun _ g => absurd hr1 (Int.not_le.mpr g)⟩⟩⟩
  obtain ⟨a2, rfl, Kn⟩ := r
  refine hQ _ _ ?_
  have x5 : ExP p H H5 := (x3.trans (ExP.ofN e4)).trans (ExP.ofE e5)
  have Ke5 := Ke4.ex e5
  have T5 := T4.ext e5
  have N5 := (N3'.extN e4).ex e5
  have L5 := L.exP x5 N lp alp
  obtain ⟨dy, oy, bey, byyy, kyy, zy, bksy, bly, y1, y2, _, _, _, _, _, y8⟩ := Kn.ex_
  obtain ⟨dx5, o5, be5, byy5, ky5, zz5, bks5, bl5, w1, _⟩ := Ke5.ex_
  let σ : L2.St := [some (.ref p), some (.ref l), some (.ref b), some (.ref a), some (.str n), some (.str z0), some (.ref a2)]
  change tSeq _ _ _ σ H5
  have ty : ∀ H1, Ex H5 H1 → TyX K H1 (.ref a2) (.ref (cK K)) := fun H1 e => .base (.ins (e _ _ y1) T.c_Keep T.is_Keep.ha T.is_Keep.hn T.is_Keep.ht T.is_Keep.hm)
  have kit : PySem.W.kitOne K (.ref (cK K)) (.ref (cK K)) = some true := by
    unfold PySem.W.kitOne
    rw [if_pos (by simp)]
  have eK : ∀ E, Ev (tOp (rEqG (DIns (cK K) (SameKe K))) (tVar 6) (tMethKw (cK K) "raised" (spRaised K) E (tVar 3) (tVar 4))) σ H5 (.bl true) := fun E H6 e6 Q q => by
    refine ⟨.ref a2, rfl, .ref a, rfl, a, dx5, _, rfl, e6 _ _ w1, by rfl, .str n, rfl, a, s, rows, ks, nd, m, c, .str n, rfl, Ke5.ex e6, D, O, hm, .inr ⟨n, rfl, hnr, hnk, ⟨fun _ _ _ v H7 e7 r => ?_, fun g => (g ⟨by omega, by omega⟩).elim, fun _ g => absurd hr1 (Int.not_le.mpr g)⟩⟩⟩
    obtain ⟨a3, rfl, Km⟩ := r
    have Kn7 := Kn.ex (e6.trans e7)
    obtain ⟨d1, o1, b1, by1, k1, z1, bk1, bl1, i1, _⟩ := Kn7.ex_
    obtain ⟨d3, o3, b3, by3, k3, z3, bk3, bl3, i3, _⟩ := Km.ex_
    exact ⟨⟨a2, a3, d1, d3, _, _, rfl, rfl, i1, i3, s, rows, _, nd, _, _, Kn7, Km, by omega, D.nam⟩, fun H8 e8 => q H8 (e7.trans e8)⟩
  have eS : Ev (tOp (rEqG (DIns (cS K) (SameSh K))) (tGet (cK K) (spFldK K "base") E0 (tVar 6)) (tGet (cK K) (spFldK K "base") E0 (tVar 3))) σ H5 (.bl true) := fun H6 e6 Q q =>
    ev_keepF (ta := tVar 6) (σ := σ) (H := H5) (ev_var rfl) y1 keF_base H6 e6 _ fun H7 e7 => ev_keepF (ta := tVar 3) (σ := σ) (H := H5) (ev_var rfl) w1 keF_base H7 (e6.trans e7) _ fun H8 e8 => by
      have e08 := (e6.trans e7).trans e8
      obtain ⟨dy', n', d', o', z', ad', q1, q2, q3⟩ := y2.ex_
      exact ⟨⟨s, s, dy', dy', _, _, rfl, rfl, e08 _ _ q1, e08 _ _ q1, rfl, rows, nd, y2.ex e08, by omega, D.nam⟩, fun H9 e9 => q H9 ((e7.trans e8).trans e9)⟩
  refine q_when (b := false) (et_is (et_or (a := false) (et_is (et_not (et_B (ev_isi (x := .ref a2) (tv := .ref (cK K)) (ev_var rfl) ev_c (.own _) ty kit))) rfl) fun _ => et_or (a := false) (et_is (et_not (et_test (eK _))) rfl) fun _ => et_is (et_not (et_test eS)) rfl) rfl) (fun h => by cases h) fun _ H6 e6 => ?_
  have spn6 : ∀ {H1}, Ex H5 H1 → Ev (tGet (cK K) (spFldK K "many") E0 (tVar 6)) σ H1 (.int (m + 1)) := fun e => ev_keepF (ev_var rfl) (e _ _ y1) keF_many
  have spn3 : ∀ {H1}, Ex H5 H1 → Ev (tGet (cK K) (spFldK K "many") E0 (tVar 3)) σ H1 (.int m) := fun e => ev_keepF (ev_var rfl) (e _ _ w1) keF_many
  have hkl2 := keyL_len rows (ksR rows ks n)
  have hkl := keyL_len rows ks
  have eI : Ev (tFn spIsKeep E0 (tCons (tVar 1) (tCons (tVar 2) (tCons (tGet (cK K) (spFldK K "many") E0 (tVar 6)) (tCons (tCB (fun xs H Q => ∃ p ys, xs = [.ref p] ∧ (SqL K H p ys ∨ SqT K H p ys) ∧ ∀ l, H l = none → Q (.ref l) (upd H l (.lst ys))) (tCons (tGet (cK K) (spFldK K "key") E0 (tVar 6)) tNil)) tNil))))) σ H6 (.bl true) := fun H7 e7 Q q => by
    obtain ⟨ad, hs, hc⟩ := y8.ex_
    have e57 := e6.trans e7
    refine ⟨.ref l, rfl, .ref b, rfl, spn6 e57 H7 (Ex.refl H7) _ fun H8 e8 => ?_⟩
    have e58 := e57.trans e8
    refine el_listE (K := K) (σ := σ) (H := H8) (te := tGet (cK K) (spFldK K "key") E0 (tVar 6)) (ev_keepF (ev_var rfl) (e58 _ _ y1) keF_key) (.inr (ex_t e58 hs)) H8 (Ex.refl H8) _ fun it H9 hn e9 h9 => ?_
    rw [cps_len] at h9
    exact ⟨l, b, it, m + 1, rows, ks0, keyL rows (ksR rows ks n), nd, bl, al, cR rows nd ks c n, ad, rfl, L5.ex (e58.trans e9), h9, CpsIn.ex hc (e58.trans e9), O2.key D, hbl, by omega, fun H10 e10 => q H10 ((e8.trans e9).trans e10)⟩
  refine q_when (b := false) (et_is (et_or (a := false) (et_test (ev_is (ev_ne (spn6 e6) (ev_op (spn3 e6) ev_c rv_I0) rfl) (by rw [decide_eq_true rfl]; rfl))) fun _ => et_is (et_not (et_B eI)) rfl) rfl) (fun h => by cases h) fun _ H7 e7 => ?_
  have e57 := e6.trans e7
  have gK6 : EvP (tGet (cK K) (spKept K) E0 (tVar 6)) σ H7 (NewT (keyL rows (ksR rows ks n))) := evp_get (ev_var rfl) (e57 _ _ y1) fun H8 e8 Q k' => ⟨a2, s, rows, _, nd, _, _, rfl, Kn.ex (e57.trans e8), by omega, k'⟩
  have gK3 : EvP (tGet (cK K) (spKept K) E0 (tVar 3)) σ H7 (NewT (keyL rows ks)) := evp_get (ev_var rfl) (e57 _ _ w1) fun H8 e8 Q k' => ⟨a, s, rows, _, nd, _, _, rfl, Ke5.ex (e57.trans e8), by omega, k'⟩
  have eC := el_cat2 (el_listP (K := K) gK3) (el_lst (ea_cons (x := .str n) (ta := tVar 4) (σ := σ) (H := H7) (ev_var rfl) ea_nil) (by show 1 ≤ 100000; decide)) (by rw [List.length_map]; show _ + 1 ≤ 100000; omega)
  have em : (keyL rows ks).map V.str ++ [V.str n] = (keyL rows ks ++ [n]).map V.str := by rw [List.map_append]; rfl
  rw [em] at eC
  have eN := ev_neSort (K := K) (evp_sortU (K := K) gK6 (by omega)) (evp_sortS (K := K) eC (by rw [List.length_append]; show _ + 1 < 64; omega)) (keyR_perm D hnr hnk) fun r hr => nm_ok (D.nam r (mem_keyL.mp hr).1)
  refine q_when (b := false) (et_is (et_or (a := false) (et_test eN) fun _ => et_test (ev_is (ev_ne (rp rfl (Ke5.ex e57)) (ev_var rfl) rfl) (by rw [decide_eq_true rfl]; rfl))) rfl) (fun h => by cases h) fun _ H8 e8 => ?_
  have e58 := e57.trans e8
  refine x_ret ⟨.ref a2, rfl, ?_⟩
  exact k n a2 H8 hnm (x5.trans (ExP.ofE e58)) (N5.ex e58) (T5.ext e58) (Kn.ex e58) O2
end
end K29
set_option Elab.async false
set_option linter.all false
set_option maxRecDepth 100000
set_option maxHeartbeats 4000000
/-! What law does, in parts. -/
namespace K29
open PySem PySem.Spec PyProof.Rows L2 Evl LamX
theorem dep_mono {nd nd' : Str → List Str} {rows : List Str} (hs : ∀ r ∈ rows, ∀ s ∈ nd r, s ∈ rows) (h : ∀ r ∈ rows, ∀ x, x ∈ nd r → x ∈ nd' r) {q r : Str} (d : Dep nd q r) : r ∈ rows → Dep nd' q r := by
  induction d with
  | base h1 => exact fun hr => .base (h _ hr _ h1)
  | step h1 _ ih => exact fun hr => .step (h _ hr _ h1) (ih (hs _ hr _ h1))
theorem sht_perm {rows : List Str} {nd nd' : Str → List Str} (S : Sht rows nd) (h : ∀ r ∈ rows, (nd' r).Perm (nd r)) : Sht rows nd' :=
  ⟨S.nod, S.len, S.nam, fun r hr s hs => S.sub r hr s ((h r hr).mem_iff.mp hs), fun r hr => (h r hr).nodup_iff.mpr (S.ndn r hr), let ⟨ρ, k⟩ := S.rk; ⟨ρ, fun r hr s hs => k r hr s ((h r hr).mem_iff.mp hs)⟩⟩
theorem dep_perm {rows : List Str} {nd nd' : Str → List Str} (S : Sht rows nd) (h : ∀ r ∈ rows, (nd' r).Perm (nd r)) {q r : Str} (hr : r ∈ rows) : Dep nd q r ↔ Dep nd' q r :=
  ⟨fun d => dep_mono S.sub (fun r hr x hx => (h r hr).mem_iff.mpr hx) d hr, fun d => dep_mono (sht_perm S h).sub (fun r hr x hx => (h r hr).mem_iff.mp hx) d hr⟩
theorem ShAt.exP {CS : Addr} {H H' : Hp} {s p cc : Addr} {t : Nat} {rows : List Str} {nd : Str → List Str} (S : ShAt CS H s rows nd) (e : ExP p H H') (N : Pen H p cc t) : ShAt CS H' s rows nd := by
  obtain ⟨dy, n, d, o2, z2, ad3, g1, g2, g3⟩ := S.ex_
  obtain ⟨ns, u, g, k1, _⟩ := N
  have go : ∀ {b : Addr} {w : HO}, H b = some w → w ≠ .lst [.ref cc, .int u, .int g] → (∀ ps, w ≠ .tbl ps) → H' b = some w := fun {b w} h n t => e _ _ (fun z => by rw [z, k1.hp] at h; exact n (Option.some.inj h).symm) t h
  exact ⟨dy, n, d, o2, z2, ad3, go g1 (fun z => nomatch z) (fun ps z => nomatch z), ⟨g2.ln, g2.ld, go g2.hn (fun z => nomatch z) (fun ps z => nomatch z), go g2.hd (fun z => nomatch z) (fun ps z => nomatch z), fun r hr => go (g2.ha r hr) (fun z => nomatch z) (fun ps z => nomatch z)⟩, go g3 (fun z => nomatch z) (fun ps z => nomatch z)⟩
theorem CpL.refs {H : Hp} {a : Addr} {xs : List Cp} (h : CpL H a xs) : ∃ ad, H a = some (.lst (refs ad (xs.map (·.2)).length)) ∧ CpsIn H ad (xs.map (·.2)) := by
  refine ⟨fun i => (xs[i]?.map (·.1)).getD 0, ?_, fun i d hd => ?_⟩
  · rw [h.hl]
    congr 2
    refine List.ext_getElem (by rw [refs_len, List.length_map, List.length_map]) fun i h1 h2 => ?_
    rw [List.length_map] at h1
    have := refs_at (ad := fun i => (xs[i]?.map (·.1)).getD 0) (n := (xs.map (·.2)).length) (i := i) (by rw [List.length_map]; exact h1)
    rw [List.getElem?_eq_getElem h2] at this
    rw [Option.some.inj this, List.getElem_map]
    rw [List.getElem?_eq_getElem h1]
    rfl
  · rw [List.getElem?_map] at hd
    cases hx : xs[i]? with
    | none => rw [hx] at hd; cases hd
    | some x =>
      rw [hx] at hd
      cases hd
      dsimp only
      rw [hx]
      exact h.hc x (List.mem_of_getElem? hx)
theorem st2 : (2 : Nat) ≤ 100000 := by decide
section
variable {K : PySem.W.Frag} {mg : Str → Option Value} {σ : L2.St} {H H' : Hp} {te ta tb tu : TE} {t : TT} {Q : VK} {D : Ends} {tz ts : TS}
theorem x_ifNB (h : te σ H fun v H1 => ∃ b, v = .bl b ∧ if (!b) = true then ts { D with nx := tz D } σ H1 else tz D σ H1) : tSeq (tIfS (tNot (tB te)) ts tNext) tz D σ H := h
theorem x_ifON {i : Nat} {a : Addr} (hv : σ[i]? = some (some (.ref a))) (h : te σ H fun v H1 => ∃ b, v = .bl b ∧ if (!b) = true then ts D σ H1 else D.nx σ H1) : tIfS (tOr (tB (tIsN (tVar i))) (tNot (tB te))) ts tNext D σ H := by
  refine ⟨.ref a, hv, decide (V.ref a = V.non), rfl, ?_⟩
  rw [decide_eq_false (fun z => nomatch z)]
  dsimp only
  rw [if_neg (by decide : ¬ (false = true))]
  exact h
theorem x_ifE {b : Bool} (h : EvT t σ H b) (h1 : b = true → ∀ H1, Ex H H1 → ta σ H1 Q) (h0 : b = false → ∀ H1, Ex H H1 → tb σ H1 Q) : tIf t ta tb σ H Q := h H (Ex.refl H) _ fun H1 e => by
  cases b
  · exact h0 rfl H1 e
  · exact h1 rfl H1 e
theorem x_evu {xs : List V} (h : EvU te σ H xs) (k : ∀ p H1, Ex H H1 → H1 p = some (.tup xs) → Q (.ref p) H1) : te σ H Q := h H (Ex.refl H) Q fun p H1 _ e h1 => k p H1 e h1
theorem x_ifTN (h : te σ H fun v H1 => ∃ b, v = .bl b ∧ if b = true then ts { D with nx := tz D } σ H1 else tz D σ H1) : tSeq (tIfS (tTest te) ts tNext) tz D σ H := h
/-- moved against () -/
theorem ev_mov {xs : List Str} (h : EvP te σ H (NewT xs)) (ok : ∀ x ∈ xs, PyData.strOk x = true) : Ev (tOp (rNeD K) te (tTup tNil)) σ H (.bl (!xs.isEmpty)) := fun H1 e Q q =>
  h H1 e _ fun v H2 e2 r => by
    obtain ⟨p, rfl, hp⟩ := r
    refine x_tup (x_nil ⟨sz_of (by show 0 ≤ 100000; decide), fun z hz => ?_⟩)
    have e3 : Ex H2 (upd H2 z (.tup [])) := Ex.new hz
    refine ⟨.tuple (xs.map PyData.str), .tuple [], .tup (st_of (e3 _ _ hp)) (dpAll_S _), .tup (st_of upd_same) .nil, shaped_t (str_lay ok) (Nat.le_trans (str_depth xs) (by decide)), by decide +kernel, ?_⟩
    have ee : PyData.eqv (.tuple (xs.map PyData.str)) (.tuple []) = xs.isEmpty := by
      cases xs with
      | nil => simp [PyData.eqv, PyData.eqvAll]
      | cons x r => simp [PyData.eqv, PyData.eqvAll]
    rw [ee]
    exact q _ (e2.trans e3)
/-- the word and the number of an error -/
theorem due_shaped {z : Str} {i : Int} (ok : PyData.strOk z = true) : SeqAt.shaped (.tuple [.str z, .int i]) = true ∧ PyData.eqv (.tuple [.str z, .int i]) (.tuple [.str z, .int i]) = true := by
  refine ⟨shaped_t ?_ ?_, ?_⟩
  · simp [PyData.canLayAll0, PyData.canLay0, ok]
  · simp [PyData.depthAll, PyData.depth]
  · simp [PyData.eqv, PyData.eqvAll]
theorem ne_due {z : Str} {i : Int} {q1 q2 : Addr} (h1 : H q1 = some (.tup [.str z, .int i])) (h2 : H q2 = some (.tup [.str z, .int i])) (ok : PyData.strOk z = true) (k : Q (.bl false) H) : rNeD K (.ref q1) (.ref q2) H Q := by
  obtain ⟨s1, s2⟩ := due_shaped (z := z) (i := i) ok
  refine ⟨_, _, .tup (st_of h1) (.cons (.str _) (.cons (.int _) .nil)), .tup (st_of h2) (.cons (.str _) (.cons (.int _) .nil)), s1, s1, ?_⟩
  rw [s2]
  exact k
theorem eq_due {z : Str} {i : Int} {q1 q2 : Addr} (h1 : H q1 = some (.tup [.str z, .int i])) (h2 : H q2 = some (.tup [.str z, .int i])) (ok : PyData.strOk z = true) (k : Q (.bl true) H) : rEqD K (.ref q1) (.ref q2) H Q := by
  obtain ⟨s1, s2⟩ := due_shaped (z := z) (i := i) ok
  refine ⟨_, _, .tup (st_of h1) (.cons (.str _) (.cons (.int _) .nil)), .tup (st_of h2) (.cons (.str _) (.cons (.int _) .nil)), s1, s1, ?_⟩
  rw [s2]
  exact k
/-- _law_heard(lambda: held.raised(title)) where one more pass is too many -/
theorem x_heard {a s : Addr} {rows ks : List Str} {nd : Str → List Str} {m : Int} {c : Str → Int} {n : Str} {due : Str × Int} (Ke : KeepAt K H a s rows nd m ks c) (D : Sht rows nd) (O : KOk rows nd m ks c) (hm : 0 ≤ m) (hn : n ∈ rows) (hk : n ∉ ks)
    (hd : (¬ (1 ≤ m + 1 ∧ m + 1 ≤ 60) ∧ due = (("passes" : Str), m + 1)) ∨ ((1 ≤ m + 1 ∧ m + 1 ≤ 60) ∧ 120 < (rows.length : Int) * (m + 1) ∧ due = (("many" : Str), (120 : Int)))) (ha : ∀ H1, Ev ta σ H1 (.ref a)) (he : ∀ H1, ExtN H H1 → Ev te σ H1 (.str n)) (hT : Tabs (tabT K) H)
    (k : ∀ q H2, ExtN H H2 → Tabs (tabT K) H2 → H2 q = some (.tup [.str due.1, .int due.2]) → Q (.ref q) H2) : tLam (tabT K) (THeard K) (fun E => tMethR (cK K) "raised" (spRaised K) E ta (tCons te tNil)) σ H Q := by
  refine ⟨hT, fun H4 e4 T4 => fun E' Q' hQ hE => ha H4 H4 (Ex.refl H4) _ fun H5 e5 => ?_⟩
  have Ke5 := (Ke.extN e4).ex e5
  obtain ⟨dx, o, be, byy, ky, z, bks, bl, g1, _⟩ := Ke5.ex_
  refine ⟨a, dx, _, rfl, g1, by rfl, he H4 e4 H5 e5 _ fun H6 e6 => ?_⟩
  have x6 : ExtN H H6 := (e4.trans (ExtN.of e5)).trans (ExtN.of e6)
  have T6 := (T4.ext e5).ext e6
  refine ⟨a, s, rows, ks, nd, m, c, .str n, rfl, Ke5.ex e6, D, O, hm, .inr ⟨n, rfl, hn, hk, ⟨fun g1 g2 => ?_, fun g1 => ?_, fun g1 g2 => ?_⟩⟩⟩
  · rcases hd with ⟨h, _⟩ | ⟨_, h, _⟩
    · exact absurd g1 h
    · exact absurd g2 (Int.not_le.mpr h)
  · rcases hd with ⟨_, rfl⟩ | ⟨h, _⟩
    · exact fun dd H7 nn e7 h7 => hE _ _ _ ⟨dd, _, .int (m + 1), rfl, h7, .inr (.inl ⟨rfl, rfl, fun q hq => k q _ (x6.trans (ExtN.of (e7.trans (Ex.new hq)))) (T6.ext (e7.trans (Ex.new hq))) upd_same⟩)⟩
    · exact absurd h g1
  · rcases hd with ⟨h, _⟩ | ⟨_, _, rfl⟩
    · exact absurd g1 h
    · exact fun dd H7 nn e7 h7 => hE _ _ _ ⟨dd, _, .int 120, rfl, h7, .inr (.inr ⟨rfl, rfl, fun q hq => k q _ (x6.trans (ExtN.of (e7.trans (Ex.new hq)))) (T6.ext (e7.trans (Ex.new hq))) upd_same⟩)⟩
/-- Keep.of(Sheet.of((..), {}), m, []) -/
theorem evp_plain {rows : List Str} {m : Int} (h : EvU te σ H (rows.map V.str)) (D : ∀ nd : Str → List Str, (∀ r ∈ rows, nd r = []) → Sht rows nd) (m1 : 1 ≤ m) (m2 : m ≤ 60) (m3 : (rows.length : Int) * m ≤ 120) :
    EvP (ClX.tCMeth (cK K) (spKeepOf K) E0 (tC (.ref (cK K))) (tCons (ClX.tCMeth (cS K) (spShOf K) E0 (tC (.ref (cS K))) (tCons te (tCons tDNewK tNil))) (tCons (tC (.int m)) (tCons (tLst tNil) tNil)))) σ H
      (fun v H2 => ∃ (a s : Addr) (nd : Str → List Str) (c : Str → Int), v = .ref a ∧ KeepAt K H2 a s rows nd m [] c ∧ Sht rows nd ∧ KOk rows nd m [] c) := fun H1 e Q q => by
  refine ⟨rfl, rfl, h H1 e _ fun tp H2 hp e2 h2 => fun d0 hd0 => ?_⟩
  have e3 : Ex H2 (upd H2 d0 (.dK [])) := Ex.new hd0
  have h3 : (upd H2 d0 (.dK [])) d0 = some (.dK []) := upd_same
  generalize upd H2 d0 (.dK []) = H3 at *
  have pr : ∀ r ∈ rows, nrF [] (fun _ => []) r = [] := fun r hr => by unfold nrF; rw [if_neg (fun z => nomatch z)]
  refine ⟨tp, d0, rows, [], fun _ => [], fun _ => 0, rfl, e3 _ _ h2, ⟨h3, fun r hr => nomatch hr⟩, (fun r hr => nomatch hr), .nil, D _ pr, fun u H4 e4 r => ?_⟩
  obtain ⟨sa, nd', rfl, S, pm⟩ := r
  have pe : ∀ r ∈ rows, nd' r = [] := fun r hr => by
    have := pm r hr
    rw [pr r hr] at this
    exact this.eq_nil
  refine ⟨sz_of (by show 0 ≤ 100000; decide), fun kl hkl => ?_⟩
  have e5 : Ex H4 (upd H4 kl (.lst [])) := Ex.new hkl
  have h5 : (upd H4 kl (.lst [])) kl = some (.lst []) := upd_same
  generalize upd H4 kl (.lst []) = H5 at *
  have O : KOk rows nd' m [] (fun _ => 0) := ⟨.nil, (fun r hr => nomatch hr), (fun r hr => nomatch hr), fun r hr => nomatch hr⟩
  refine ⟨sa, kl, m, rows, [], nd', fun _ => 0, fun _ => 0, rfl, S.ex e5, D _ pe, h5, (fun i d hd => nomatch hd), O, m1, m2, m3, fun v H6 e6 r => ?_⟩
  obtain ⟨a, rfl, Ke⟩ := r
  exact q _ H6 (e2.trans (e3.trans (e4.trans (e5.trans e6)))) ⟨a, sa, nd', _, rfl, Ke, D _ pe, O⟩
end
end K29
set_option Elab.async false
set_option linter.all false
set_option maxRecDepth 100000
set_option maxHeartbeats 8000000
/-! law. -/
namespace K29
open PySem PySem.Spec PyProof.Rows L2 Evl LamX
section
variable {P : Program} {w : World} {K : PySem.W.Frag} {mg : Str → Option Value} {base : Heap}
theorem x_pair {K : PySem.W.Frag} {σ : L2.St} {H : Hp} {te : TE} {tz : TS} {D : Ends} {i j : Nat} (h : te σ H fun v H1 => ∃ a xs, v = .ref a ∧ SqT K H1 a xs ∧ xs.length = 2 ∧ ∃ v1 r1, xs = v1 :: r1 ∧ ∃ v2 r2, r1 = v2 :: r2 ∧ r2 = [] ∧ tz D ((σ.set i (some v1)).set j (some v2)) H1) : tSeq (tAsg te (gTup K 2 (gCons (gName i) (gCons (gName j) gNil)))) tz D σ H := h
abbrev nsL : List Str := ["_law_script", "_law_pen_here", "_law_turn", "_law_many", "_law_laps", "_law_ladder", "_law_wants", "_law_below_here", "_law_held", "_law_due", "_law_last", "_law_wide"]
theorem sc_law : FnScope nsL ["_law_script"] (defScope s_law) := ⟨rfl, rfl, rfl, by decide +kernel, rfl, by decide +kernel, by decide +kernel⟩
def spLaw (K : PySem.W.Frag) : Sp := fun vs H Q _ => ∃ (l : Addr) (ns : List Int), vs = [.ref l] ∧ SqL K H l (ns.map V.int) ∧ Tabs (tabT K) H ∧ ∀ H2, Q (.bl true) H2
theorem nm_a : Sht ["a"] (fun _ => []) := ⟨by decide +kernel, by decide +kernel, fun r hr => isNm_ok (List.all_eq_true.mp (by decide +kernel : (["a"] : List Str).all isNm = true) r hr), (fun r hr s hs => nomatch hs), fun r hr => .nil, ⟨fun _ => 0, fun r hr s hs => nomatch hs⟩⟩
theorem nm_abc : Sht ["a", "b", "c"] (fun _ => []) := ⟨by decide +kernel, by decide +kernel, fun r hr => isNm_ok (List.all_eq_true.mp (by decide +kernel : (["a", "b", "c"] : List Str).all isNm = true) r hr), (fun r hr s hs => nomatch hs), fun r hr => .nil, ⟨fun _ => 0, fun r hr s hs => nomatch hs⟩⟩
theorem sht_nil {rows : List Str} (S : Sht rows fun _ => []) (nd : Str → List Str) (h : ∀ r ∈ rows, nd r = []) : Sht rows nd := sht_perm S fun r hr => by rw [h r hr]
theorem ok_law (T : Tx K mg) (N3 : Tn K) (TB : ∀ p ∈ tf, TabB base mg (He.cT K p).1 (He.cT K p).2) : FnG P w K mg base 13 (He.ga K "law") (spLaw K) := by
  have G1 := ok_law_pen (P := P) (w := w) (base := base) T
  have G2 := ok_law_size (P := P) (w := w) (base := base) T
  have G3 := ok_law_names (P := P) (w := w) (base := base) T
  have G4 := ok_law_needs (P := P) (w := w) (base := base) T
  have G5 := ok_law_below (P := P) (w := w) (base := base) T
  have G6 := ok_law_keeps (P := P) (w := w) (base := base) T
  have G7 := ok_Sheet_of (P := P) (w := w) (base := base) T
  have G8 := ok_Keep_of (P := P) (w := w) (base := base) T
  have G9 := ok_law_refused (P := P) (w := w) (base := base) T N3 TB
  have G10 := ok_law_raised (P := P) (w := w) (base := base) T N3 TB
  have G11 := ok_Keep_moved (P := P) (w := w) (base := base) T
  have G12 := ok_Keep_span (P := P) (w := w) (base := base) T
  have G13 := ok_raised (P := P) (w := w) (base := base) T
  obtain ⟨_, D1⟩ := T.d_law_pen
  obtain ⟨_, D2⟩ := T.d_law_size
  obtain ⟨_, D3⟩ := T.d_law_names
  obtain ⟨_, D4⟩ := T.d_law_needs
  obtain ⟨_, D5⟩ := T.d_law_below
  obtain ⟨_, D6⟩ := T.d_law_keeps
  obtain ⟨_, D9⟩ := T.d_law_refused_right
  obtain ⟨_, D10⟩ := T.d_law_raised_right
  obtain ⟨fh, FH⟩ := T.d_law_heard
  have kph := FH.kp
  have bh := FH.bindsN (ps := ["_law_ask"]) fun _ _ _ _ _ _ us hl => match us, hl with | [_], _ => rfl
  obtain ⟨oc, od, dV, kV, doc, pm, an, cdv, ct, osl, rfl, lk, hcd, _, _⟩ := FH.ex
  have hnd := sc_law.nd
  refine fng (p := ("law", none)) T.d_law sc_law (fun _ _ _ _ _ _ us hl => match us, hl with | [_], _ => rfl) (fun vs H Q E h => by obtain ⟨l, ns, rfl, _⟩ := h; rfl) fun A outer s0 H vs Q E hr hgd h => ?_
  obtain ⟨l0, ns, rfl, hs0, hT0, k⟩ := h
  have hmT : ((He.cT K ("law", none)).2, ("law" : Str) ++ ".<locals>." ++ "<lambda>") ∈ tabT K := List.mem_map.mpr ⟨("law", none), List.mem_cons_of_mem _ (List.mem_cons_of_mem _ List.mem_cons_self), rfl⟩
  have TBl := TB ("law", none) (List.mem_cons_of_mem _ (List.mem_cons_of_mem _ List.mem_cons_self))
  refine ⟨_, pss_cons (ps_asg (pe_fn G1 (hr.mono (by decide)) (by rfl) T.g_law_pen D1.kp pass0 (pa_cons (pv 0) pa_nil)) (pg_name (i := 1) hnd rfl (Or.inl rfl)))
    (pss_cons (ps_for PassesOwn.never rfl (pi_range1 (by rfl) T.f_range (pa_cons pe_int pa_nil)) (pg_name (i := 2) hnd rfl (Or.inl rfl))
      (pss_cons (ps_asg (pe_fn G2 (hr.mono (by decide)) (by rfl) T.g_law_size D2.kp pass0 (pa_cons (pv 1) (pa_cons pe_int pa_nil))) (pg_tup (n := 2) rfl (pgs_cons (pg_name (i := 3) hnd rfl (Or.inl rfl)) (pgs_cons (pg_name (i := 4) hnd rfl (Or.inl rfl)) pgs_nil))))
      (pss_cons (ps_asg (pe_fn G3 (hr.mono (by decide)) (by rfl) T.g_law_names D3.kp pass0 (pa_cons (pv 1) (pa_cons (pv 3) pa_nil))) (pg_name (i := 5) hnd rfl (Or.inl rfl)))
      (pss_cons (ps_asg (pe_fn G4 (hr.mono (by decide)) (by rfl) T.g_law_needs D4.kp pass0 (pa_cons (pv 1) (pa_cons (pv 5) pa_nil))) (pg_name (i := 6) hnd rfl (Or.inl rfl)))
      (pss_cons (ps_asg (pe_fn G5 (hr.mono (by decide)) (by rfl) T.g_law_below D5.kp pass0 (pa_cons (pv 6) pa_nil)) (pg_name (i := 7) hnd rfl (Or.inl rfl)))
      (pss_cons (ps_asg (ClX.pe_cmeth (E := E0) (pe_glob (v := .ref (cK K)) (by rfl) T.g_Keep rfl) T.cm_Keep_of.1 T.cm_Keep_of.2 G8 (hr.mono (by decide)) pass0 (pa_cons (ClX.pe_cmeth (E := E0) (pe_glob (v := .ref (cS K)) (by rfl) T.g_Sheet rfl) T.cm_Sheet_of.1 T.cm_Sheet_of.2 G7 (hr.mono (by decide)) pass0 (pa_cons (pe_callTy call_tuple_of (by rfl) T.f_tuple cs_tuple (pa_cons (pv 5) pa_nil)) (pa_cons (pv 6) pa_nil)))
          (pa_cons (pv 4) (pa_cons (pe_fn G6 (hr.mono (by decide)) (by rfl) T.g_law_keeps D6.kp pass0 (pa_cons (pv 1) (pa_cons (pv 5) (pa_cons (pv 7) (pa_cons (pv 4) pa_nil))))) pa_nil)))) (pg_name (i := 8) hnd rfl (Or.inr rfl)))
      (pss_cons (ps_if (pt_not (pt_val (pe_fnG G9 (hr.mono (by decide)) hgd (by rfl) T.g_law_refused_right D9.kp pass0 (pa_cons (pv 5) (pa_cons (pv 8) pa_nil))))) pss_dead pss_nil)
      (pss_cons (ps_while PassesOwn.never (PW.pt (pw_and (pt_cmpR (op_neD hr.units) (pe_get (E := E0) (pv 8) T.c_Keep T.p_Keep_moved G11 (hr.mono (by decide))) (pe_tup pa_nil) (nomark _))
          (pw_and (pt_cmpR op_lt (pe_op op_mul (pe_callB call_len_seq (by rfl) T.f_len PySem.boot_len (pa_cons (pv 5) pa_nil)) (pe_op op_add (pe_get (E := E0) (pv 8) T.c_Keep T.p_Keep_span G12 (hr.mono (by decide))) pe_int)) pe_int (nomark _)) (pw_and1 (pt_cmpR op_lt (pe_get (E := E0) (pv 8) T.c_Keep T.p_Keep_span G12 (hr.mono (by decide))) pe_int (nomark _))))))
        (pss_cons (ps_asg (pe_fnG G10 (hr.mono (by decide)) hgd (by rfl) T.g_law_raised_right D10.kp pass0 (pa_cons (pv 1) (pa_cons (pv 5) (pa_cons (pv 7) (pa_cons (pv 8) pa_nil))))) (pg_name (i := 8) hnd rfl (Or.inr rfl)))
        (pss_one (ps_if (PW.pt (pw_or (pt_cmp (pc_isN (pv 8)) rfl) (pw_or1 (pt_not (pt_val (pe_fnG G9 (hr.mono (by decide)) hgd (by rfl) T.g_law_refused_right D9.kp pass0 (pa_cons (pv 5) (pa_cons (pv 8) pa_nil)))))))) pss_dead pss_nil))))
      (pss_one (ps_if (pt_cmpR (op_neD hr.units) (pe_get (E := E0) (pv 8) T.c_Keep T.p_Keep_moved G11 (hr.mono (by decide))) (pe_tup pa_nil) (nomark _))
        (pss_cons (ps_asg (pe_ifExp (pt_cmpR op_eq (pe_get (E := E0) (pv 8) T.c_Keep T.p_Keep_span G12 (hr.mono (by decide))) pe_int (nomark _)) (pe_tup (pa_cons pe_str (pa_cons pe_int pa_nil))) (pe_tup (pa_cons pe_str (pa_cons pe_int pa_nil)))) (pg_name (i := 9) hnd rfl (Or.inl rfl)))
        (pss_one (ps_if (pt_cmpR (op_neD hr.units) (pe_lamcall (T := tabT K) (TT := THeard K) (k := 10) (t := fun E => tMethR (cK K) "raised" (spRaised K) E (tVar 8) (tCons (tOp (rIxT K) (tGet (cK K) (spMoved K) E0 (tVar 8)) (tC (.int 0))) tNil)) (by rfl) T.g_law_heard kph lk hcd bh sc_law_heard rfl (Or.inl rfl) (heard_gives T) TBl rfl hmT (fun p hp e => N3 p hp _ hmT e) hr (lamS_by (by rfl)) rfl (fun _ _ _ _ _ => rfl)
          (fun A2 outer2 s2 H2 E2 f2 c2 hr2 => pe_methR (pv 8) T.c_Keep T.m_Keep_raised G13 (hr2.mono (by decide)) (passE (E := E2) rfl rfl rfl rfl) (pa_cons (pe_ix ix_tup (pe_get (E := E0) (pv 8) T.c_Keep T.p_Keep_moved G11 (hr2.mono (by decide))) pe_int fun _ _ => rfl) pa_nil))) (pv 9) (nomark _)) pss_dead pss_nil))) pss_nil))))))))))
    (pss_cons (ps_asg (ClX.pe_cmeth (E := E0) (pe_glob (v := .ref (cK K)) (by rfl) T.g_Keep rfl) T.cm_Keep_of.1 T.cm_Keep_of.2 G8 (hr.mono (by decide)) pass0 (pa_cons (ClX.pe_cmeth (E := E0) (pe_glob (v := .ref (cS K)) (by rfl) T.g_Sheet rfl) T.cm_Sheet_of.1 T.cm_Sheet_of.2 G7 (hr.mono (by decide)) pass0 (pa_cons (pe_tup (pa_cons pe_str pa_nil)) (pa_cons pe_dnewK pa_nil))) (pa_cons pe_int (pa_cons (pe_lst pa_nil) pa_nil)))) (pg_name (i := 10) hnd rfl (Or.inr rfl)))
    (pss_cons (ps_asg (ClX.pe_cmeth (E := E0) (pe_glob (v := .ref (cK K)) (by rfl) T.g_Keep rfl) T.cm_Keep_of.1 T.cm_Keep_of.2 G8 (hr.mono (by decide)) pass0 (pa_cons (ClX.pe_cmeth (E := E0) (pe_glob (v := .ref (cS K)) (by rfl) T.g_Sheet rfl) T.cm_Sheet_of.1 T.cm_Sheet_of.2 G7 (hr.mono (by decide)) pass0 (pa_cons (pe_tup (pa_cons pe_str (pa_cons pe_str (pa_cons pe_str pa_nil)))) (pa_cons pe_dnewK pa_nil))) (pa_cons pe_int (pa_cons (pe_lst pa_nil) pa_nil)))) (pg_name (i := 11) hnd rfl (Or.inr rfl)))
    (pss_cons (ps_if (pt_cmpR (op_neD hr.units) (pe_lamcall (T := tabT K) (TT := THeard K) (k := 10) (t := fun E => tMethR (cK K) "raised" (spRaised K) E (tVar 10) (tCons (tC (.str "a")) tNil)) (by rfl) T.g_law_heard kph lk hcd bh sc_law_heard rfl (Or.inl rfl) (heard_gives T) TBl rfl hmT (fun p hp e => N3 p hp _ hmT e) hr (lamS_by (by rfl)) rfl (fun _ _ _ _ _ => rfl)
          (fun A2 outer2 s2 H2 E2 f2 c2 hr2 => pe_methR (pv 10) T.c_Keep T.m_Keep_raised G13 (hr2.mono (by decide)) (passE (E := E2) rfl rfl rfl rfl) (pa_cons pe_str pa_nil))) (pe_tup (pa_cons pe_str (pa_cons pe_int pa_nil))) (nomark _)) pss_dead pss_nil)
    (pss_one (ps_ret (pe_cmpR (op_eqD hr.units) (pe_lamcall (T := tabT K) (TT := THeard K) (k := 10) (t := fun E => tMethR (cK K) "raised" (spRaised K) E (tVar 11) (tCons (tC (.str "b")) tNil)) (by rfl) T.g_law_heard kph lk hcd bh sc_law_heard rfl (Or.inl rfl) (heard_gives T) TBl rfl hmT (fun p hp e => N3 p hp _ hmT e) hr (lamS_by (by rfl)) rfl (fun _ _ _ _ _ => rfl)
          (fun A2 outer2 s2 H2 E2 f2 c2 hr2 => pe_methR (pv 11) T.c_Keep T.m_Keep_raised G13 (hr2.mono (by decide)) (passE (E := E2) rfl rfl rfl rfl) (pa_cons pe_str pa_nil))) (pe_tup (pa_cons pe_str (pa_cons pe_int pa_nil))) (nomark _)))))))), ?_⟩
  have s12 : ∀ {i : Nat} {x : V}, True := fun {_ _} => trivial
  refine x_asg ⟨.ref l0, rfl, l0, ns, rfl, hs0, fun u H1 e1 r => ?_⟩
  obtain ⟨p, cc, rfl, N1⟩ := r
  have T1 := hT0.ext e1
  refine q_forWn (walk_range (lo := 0) (n := 4)) (fun i σ' H' => (∃ x2 x3 x4 x5 x6 x7 x8 x9 x10 x11 : Option V, σ' = [some (.ref l0), some (.ref p), x2, x3, x4, x5, x6, x7, x8, x9, x10, x11]) ∧ Pen H' p cc (600 * i) ∧ Tabs (tabT K) H')
    (fun R k' => ⟨4, rfl, by decide, by decide, k' H1 (Ex.refl H1) ⟨⟨_, _, _, _, _, _, _, _, _, _, rfl⟩, N1, T1⟩⟩) (fun _ _ _ _ _ => trivial) (fun i x σ' H2 H3 hi pv y => ?_) fun σ' H2 pv => ?_
  · obtain ⟨⟨x2, x3, x4, x5, x6, x7, x8, x9, x10, x11, rfl⟩, N3', T3⟩ := pv
    obtain ⟨rfl, rfl⟩ := y
    change tSeq _ _ _ [some (.ref l0), some (.ref p), some (.int ((0 : Int) + (i : Nat))), x3, x4, x5, x6, x7, x8, x9, x10, x11] H3
    generalize V.int ((0 : Int) + (i : Nat)) = v2
    -- size
    refine x_pair ⟨.ref p, rfl, p, cc, 600 * i, rfl, N3', by omega, fun q m n H6 b6 N6 hq m1 n1 n2 mn => ⟨q, _, rfl, st_of hq, rfl, .int m, _, rfl, .int n, [], rfl, rfl, ?_⟩⟩
    have T6 := K29.Tabs.exB T3 N3' b6
    change tSeq _ _ _ [some (.ref l0), some (.ref p), some v2, some (.int m), some (.int n), x5, x6, x7, x8, x9, x10, x11] H6
    -- names
    refine x_asg ⟨.ref p, rfl, .int m, rfl, p, cc, 600 * i + 5, m, rfl, N6, by omega, m1, fun lad rows H7 b7 N7 hl7 fl7 nd7 len7 wd7 => ?_⟩
    have lp : lad ≠ p := (N6.new fl7).1
    have T7 := K29.Tabs.exB T6 N6 b7
    have nm7 : ∀ r ∈ rows, IsName r := fun r hr => words_nm r (wd7 r hr)
    have hzq : ("zq" : Str) ∉ rows := fun z => words_zq (wd7 _ z)
    change tSeq _ _ _ [some (.ref l0), some (.ref p), some v2, some (.int m), some (.int n), some (.ref lad), x6, x7, x8, x9, x10, x11] H7
    -- needs
    refine x_asg ⟨.ref p, rfl, .ref lad, rfl, p, cc, lad, 600 * i + 18, rows, rfl, N7, by omega, hl7, lp, nd7, by omega, nm7, fun d ks nd ad H8 b8 N8 nd8 perm8 sht8 fd8 => ?_⟩
    have T8 := K29.Tabs.exB T7 N7 b8
    have hl8 : H8 lad = some (.lst (rows.map V.str)) := b8 _ _ lp hl7
    have mk : ∀ r, r ∈ ks ↔ r ∈ rows := fun r => perm8.mem_iff
    change tSeq _ _ _ [some (.ref l0), some (.ref p), some v2, some (.int m), some (.int n), some (.ref lad), some (.ref d), x7, x8, x9, x10, x11] H8
    -- below
    refine x_asg ⟨.ref d, rfl, d, ks, nd, ad, rfl, nd8, (fun r hr s hs => (mk s).mpr (sht8.sub r ((mk r).mp hr) s hs)), (fun r hr => by
      have := len_sub (sht8.ndn r ((mk r).mp hr)) (sht8.sub r ((mk r).mp hr))
      omega), perm8.nodup_iff.mpr nd7, by rw [perm8.length_eq]; omega, (fun r hr => nm7 r ((mk r).mp hr)), fun f bl al H9 e9 ll9 hbl9 ff9 fal9 => ?_⟩
    have alp : ∀ r ∈ ks, al r ≠ p := fun r hr => (N8.new (fal9 r hr)).1
    have L9 : Lw H9 lad f rows ks bl al := ⟨e9 _ _ hl8, ll9, mk⟩
    have N9 := N8.ex e9
    change tSeq _ _ _ [some (.ref l0), some (.ref p), some v2, some (.int m), some (.int n), some (.ref lad), some (.ref d), some (.ref f), x8, x9, x10, x11] H9
    -- the sheet
    refine x_asg ⟨rfl, rfl, .ref lad, rfl, lad, _, rfl, .inl ⟨sq_of L9.hl, fun tp htp => ?_⟩⟩
    have e10 : Ex H9 (upd H9 tp (.tup (rows.map V.str))) := Ex.new htp
    have h10 : (upd H9 tp (.tup (rows.map V.str))) tp = some (.tup (rows.map V.str)) := upd_same
    generalize upd H9 tp (.tup (rows.map V.str)) = H10 at *
    have e810 := e9.trans e10
    have nrp : ∀ r ∈ rows, (nrF ks nd r).Perm (nd r) := fun r hr => by unfold nrF; rw [if_pos ((mk r).mpr hr)]
    refine ⟨.ref d, rfl, tp, d, rows, ks, nd, ad, rfl, h10, ⟨e810 _ _ nd8.hd, fun r hr => e810 _ _ (nd8.ha r hr)⟩, (fun r hr => (mk r).mp hr), perm8.nodup_iff.mpr nd7, sht8.perm nrp, fun u H11 e11 r => ?_⟩
    obtain ⟨sa, nd', rfl, S11, pr⟩ := r
    have pr' : ∀ r ∈ rows, (nd' r).Perm (nd r) := fun r hr => (pr r hr).trans (nrp r hr)
    have D := sht8.perm pr'
    have hbl : ∀ r ∈ rows, ∀ q, q ∈ bl r ↔ Dep nd' q r := fun r hr q => (hbl9 r ((mk r).mpr hr) q).trans (dep_perm sht8 pr' hr)
    have e911 := e10.trans e11
    have N11 := N9.ex e911
    have L11 := L9.ex e911
    -- the keep
    refine ⟨.int n, rfl, .ref p, rfl, .ref lad, rfl, .ref f, rfl, .int n, rfl, p, cc, lad, f, 600 * i + 418, n, rows, ks, nd', bl, al, rfl, N11, by omega, L11, lp, alp, D, hbl, by rw [len7]; exact mn, n2, fun kf xs H12 b12 N12 cl12 fk r1 r2 r3 => ?_⟩
    obtain ⟨kk, c, hcs, O⟩ := keeps_ok D hbl (laps := (n : Int)) (cs := xs.map (·.2)) (fun d hd => by
      obtain ⟨x, hx, rfl⟩ := List.mem_map.mp hd
      exact r1 x hx) (fun d hd d2 hd2 => by
      obtain ⟨x, hx, rfl⟩ := List.mem_map.mp hd
      obtain ⟨y, hy, rfl⟩ := List.mem_map.mp hd2
      exact r3 x hx y hy) r2
    obtain ⟨adk, k1, k2⟩ := cl12.refs
    rw [hcs, cps_len] at k1
    rw [hcs] at k2
    have mnI : (rows.length : Int) * (n : Int) ≤ 120 := by
      have h1 : rows.length * n ≤ 120 := by rw [len7]; omega
      exact_mod_cast h1
    have L12 := L11.exB b12 N11 lp alp
    have S12 := S11.exP (ExP.ofB b12) N11
    have T12 := K29.Tabs.exB ((T8.ext e9).ext e911) N11 b12
    refine ⟨sa, kf, (n : Int), rows, kk, nd', c, adk, rfl, S12, D, k1, k2, O, by omega, by omega, mnI, fun u H13 e13 r => ?_⟩
    obtain ⟨ka, rfl, Ke13⟩ := r
    have N13 := N12.ex e13
    have T13 := T12.ext e13
    have L13 := L12.ex e13
    change tSeq _ _ _ [some (.ref l0), some (.ref p), some v2, some (.int m), some (.int n), some (.ref lad), some (.ref d), some (.ref f), some (.ref ka), x9, x10, x11] H13
    -- refused
    refine x_ifNB ⟨.ref lad, rfl, .ref ka, rfl, lad, ka, sa, rows, kk, nd', n, c, rfl, Ke13, D, O, by omega, hzq, T13, fun H14 e14 T14 => ⟨true, rfl, ?_⟩⟩
    rw [if_neg (by decide : ¬ (!true) = true)]
    have N14 := N13.extN e14
    have Ke14 := Ke13.extN e14
    have L14 := L13.exP (ExP.ofN e14) N13 lp alp
    -- the loop
    let W : Nat → L2.St → Hp → Prop := fun μ σ' H' => ∃ (a : Addr) (kk : List Str) (c : Str → Int) (M : Int), μ = (60 - M).toNat ∧ σ' = [some (.ref l0), some (.ref p), some v2, some (.int m), some (.int n), some (.ref lad), some (.ref d), some (.ref f), some (.ref a), x9, x10, x11] ∧ ExP p H14 H' ∧ Pen H' p cc (600 * i + 508 + (M - n).toNat) ∧ Tabs (tabT K) H' ∧ KeepAt K H' a sa rows nd' M kk c ∧ KOk rows nd' M kk c ∧ (n : Int) ≤ M ∧ M ≤ 60
    have mvE : ∀ {σ : L2.St} {H' H1 : Hp} {a : Addr} {kk : List Str} {c : Str → Int} {M : Int}, σ[8]? = some (some (.ref a)) → KeepAt K H' a sa rows nd' M kk c → Ex H' H1 → EvP (tGet (cK K) (spMoved K) E0 (tVar 8)) σ H1 (NewT (movL rows kk)) := fun {σ H' H1 a kk c M} hσ ke e => by
      obtain ⟨dx, o, be, byy, ky, z, bks, bl2, h1, _⟩ := ke.ex_
      exact evp_get (ev_var hσ) (e _ _ h1) fun H2 e2 Q k => ⟨a, sa, rows, kk, nd', M, c, rfl, ke.ex (e.trans e2), by omega, k⟩
    have spE : ∀ {σ : L2.St} {H' H1 : Hp} {a : Addr} {kk : List Str} {c : Str → Int} {M : Int}, σ[8]? = some (some (.ref a)) → KeepAt K H' a sa rows nd' M kk c → Ex H' H1 → Ev (tGet (cK K) (spFldK K "many") E0 (tVar 8)) σ H1 (.int M) := fun {σ H' H1 a kk c M} hσ ke e => by
      obtain ⟨dx, o, be, byy, ky, z, bks, bl2, h1, _⟩ := ke.ex_
      exact ev_keepF (ev_var hσ) (e _ _ h1) keF_many
    have okm : ∀ kk : List Str, ∀ x ∈ movL rows kk, PyData.strOk x = true := fun kk x hx => nm_ok (nm7 x (List.mem_filter.mp (show x ∈ rows.filter _ from hx)).1)
    refine q_while W _ ⟨ka, kk, c, n, rfl, rfl, ExP.refl H14, N14.le (by omega), T14, Ke14, O, by omega, by omega⟩ fun μ σ' H' hW => ?_
    obtain ⟨a, kk, c, M, rfl, rfl, xW, NW, TW, KeW, OW, M1, M2⟩ := hW
    have LW := L14.exP xW N14 lp alp
    refine ⟨(!(movL rows kk).isEmpty) && (decide ((rows.length : Int) * (M + 1) < 121) && decide (M < 60)), et_and (et_test (ev_mov (K := K) (mvE rfl KeW (Ex.refl H')) (okm kk))) fun _ => et_and (et_test (ev_op (ev_op (x := .int (rows.length : Int)) (y := .int (M + 1)) (ev_is (ev_lenS (ev_var rfl) (sq_of LW.hl)) (by rw [List.length_map])) (ev_op (spE rfl KeW (Ex.refl H')) ev_c rv_I0) (z := .int ((rows.length : Int) * (M + 1))) (fun H1 _ _ q => ⟨_, _, rfl, rfl, Or.inr ⟨by omega, by omega⟩, q H1 (Ex.refl H1)⟩)) ev_c rv_I0)) fun _ => et_test (ev_op (spE rfl KeW (Ex.refl H')) ev_c rv_I0), fun hb H5 e5 => ⟨_, fun _ _ h => h, ?_⟩, fun hb H5 e5 => ?_⟩
    · rw [Bool.and_eq_true, Bool.and_eq_true, decide_eq_true_iff, decide_eq_true_iff] at hb
      obtain ⟨b1, b2, b3⟩ := hb
      have mne : movL rows kk ≠ [] := fun z => by rw [z] at b1; cases b1
      refine x_asg ⟨.ref p, rfl, .ref lad, rfl, .ref f, rfl, .ref a, rfl, p, cc, lad, f, a, sa, 600 * i + 508 + (M - n).toNat, rows, kk, ks, nd', bl, al, M, c, rfl, NW.ex e5, by omega, LW.ex e5, lp, alp, KeW.ex e5, D, OW, by omega, hbl, mne, by omega, by omega, TW.ext e5, fun nn a2 H6 hnm x6 N6' T6' Ke6 O6 => ?_⟩
      refine x_ifON rfl ⟨.ref lad, rfl, .ref a2, rfl, lad, a2, sa, rows, _, nd', M + 1, _, rfl, Ke6, D, O6, by omega, hzq, T6', fun H7' e7' T7' => ⟨true, rfl, ?_⟩⟩
      rw [if_neg (by decide : ¬ (!true) = true)]
      exact ⟨(60 - (M + 1)).toNat, by omega, a2, _, _, M + 1, rfl, rfl, ((xW.trans (ExP.ofE e5)).trans x6).trans (ExP.ofN e7'), (N6'.extN e7').le (by omega), T7', Ke6.extN e7', O6, by omega, by omega⟩
    · -- what is left
      have Ke5 := KeW.ex e5
      have N5 := (NW.ex e5).le (u := 600 * (i + 1)) (by omega)
      have T5 := TW.ext e5
      have nxt : ∀ {H' : Hp} {y : Option V}, ExtN H5 H' → Tabs (tabT K) H' → (∃ y2 y3 y4 y5 y6 y7 y8 y9 y10 y11 : Option V, ([some (.ref l0), some (.ref p), some v2, some (.int m), some (.int n), some (.ref lad), some (.ref d), some (.ref f), some (.ref a), y, x10, x11] : L2.St) = [some (.ref l0), some (.ref p), y2, y3, y4, y5, y6, y7, y8, y9, y10, y11]) ∧ Pen H' p cc (600 * (i + 1)) ∧ Tabs (tabT K) H' := fun e t => ⟨⟨_, _, _, _, _, _, _, _, _, _, rfl⟩, N5.extN e, t⟩
      refine s_if (D := { nx := fun σ' H' => (∃ x2 x3 x4 x5 x6 x7 x8 x9 x10 x11 : Option V, σ' = [some (.ref l0), some (.ref p), x2, x3, x4, x5, x6, x7, x8, x9, x10, x11]) ∧ Pen H' p cc (600 * (i + 1)) ∧ Tabs (tabT K) H', rt := _, bk := _, ct := _ }) (b := !(movL rows kk).isEmpty) (et_test (ev_mov (K := K) (mvE rfl Ke5 (Ex.refl H5)) (okm kk))) (fun hm6 H6' e6' => ?_) fun hm6 H6' e6' => nxt (ExtN.of e6') (T5.ext e6')
      have e56 : Ex H5 H6' := e6'
      have Ke6 := Ke5.ex e6'
      have hb' : ¬ ((rows.length : Int) * (M + 1) < 121 ∧ M < 60) := fun z => by
        rw [hm6, Bool.true_and, decide_eq_true z.1, decide_eq_true z.2] at hb
        cases hb
      obtain ⟨nn, rest, hmov⟩ : ∃ nn rest, movL rows kk = nn :: rest := by
        cases hq : movL rows kk with
        | nil => rw [hq] at hm6; cases hm6
        | cons x r => exact ⟨x, r, rfl⟩
      have hnn : nn ∈ rows ∧ nn ∉ kk := by
        have hx : nn ∈ movL rows kk := by
          rw [hmov]
          exact List.mem_cons_self
        have := List.mem_filter.mp (show nn ∈ rows.filter _ from hx)
        exact ⟨this.1, by simpa using this.2⟩
      -- due
      have hd : ∃ due : Str × Int, PyData.strOk due.1 = true ∧ ((M = 60 ∧ due = (("passes" : Str), (61 : Int))) ∨ (M ≠ 60 ∧ due = (("many" : Str), (120 : Int)))) := by
        by_cases h : M = 60
        · exact ⟨_, by decide +kernel, .inl ⟨h, rfl⟩⟩
        · exact ⟨_, by decide +kernel, .inr ⟨h, rfl⟩⟩
      obtain ⟨due, dok, hdue⟩ := hd
      have step : ∀ q9 H9', Ex H6' H9' → H9' q9 = some (.tup [.str due.1, .int due.2]) → (tIfS (tTest (tOp (rNeD K) (tLam (tabT K) (THeard K) fun E => tMethR (cK K) "raised" (spRaised K) E (tVar 8) (tCons (tOp (rIxT K) (tGet (cK K) (spMoved K) E0 (tVar 8)) (tC (.int 0))) tNil)) (tVar 9))) (fun _ _ _ => False) tNext) { nx := fun σ' H' => (∃ x2 x3 x4 x5 x6 x7 x8 x9 x10 x11 : Option V, σ' = [some (.ref l0), some (.ref p), x2, x3, x4, x5, x6, x7, x8, x9, x10, x11]) ∧ Pen H' p cc (600 * (i + 1)) ∧ Tabs (tabT K) H', rt := Q } [some (.ref l0), some (.ref p), some v2, some (.int m), some (.int n), some (.ref lad), some (.ref d), some (.ref f), some (.ref a), some (.ref q9), x10, x11] H9' := fun q9 H9' e9' h9 => by
        have Ke9 := Ke6.ex e9'
        refine x_heard (due := due) Ke9 D OW (by omega) hnn.1 hnn.2 ?_ (fun H1 => ev_var rfl) (fun H1 e1 Ha ea Q q => ?_) ((T5.ext e6').ext e9') fun q H2' e2' T2' h2' => ?_
        · rcases hdue with ⟨hM, rfl⟩ | ⟨hM, rfl⟩
          · exact .inl ⟨by omega, by rw [hM]; rfl⟩
          · exact .inr ⟨by omega, by omega, rfl⟩
        · refine x_op (mvE rfl (Ke9.extN e1) ea Ha (Ex.refl Ha) _ fun v Hb eb r => ?_)
          obtain ⟨qm, rfl, hqm⟩ := r
          rw [hmov] at hqm
          exact ⟨qm, _, _, .str nn, rfl, rfl, st_of hqm, at_of (j := 0) rfl rfl, q Hb eb⟩
        · refine ⟨.ref q9, rfl, ?_⟩
          refine ne_due h2' (e2' _ _ h9 fun ps z => nomatch z) dok ⟨false, rfl, ?_⟩
          exact nxt ((ExtN.of (e6'.trans e9')).trans e2') T2'
      refine x_asg (x_ifE (b := decide (V.int M = V.int 60)) (et_test (ev_eq (spE rfl Ke6 (Ex.refl H6')) ev_c rfl)) (fun hb H7' e7' => ?_) fun hb H7' e7' => ?_)
      · have hM : M = 60 := by have := of_decide_eq_true hb; injection this
        rcases hdue with ⟨_, rfl⟩ | ⟨h, _⟩
        · exact x_evu (eu_tup (ea_cons ev_c (ea_cons ev_c ea_nil)) (by show 2 ≤ 100000; decide)) fun q9 H9' e9' h9 => step q9 H9' (e7'.trans e9') h9
        · exact absurd hM h
      · have hM : M ≠ 60 := fun z => by rw [z, decide_eq_true rfl] at hb; cases hb
        rcases hdue with ⟨h, _⟩ | ⟨_, rfl⟩
        · exact absurd h hM
        · exact x_evu (eu_tup (ea_cons ev_c (ea_cons ev_c ea_nil)) (by show 2 ≤ 100000; decide)) fun q9 H9' e9' h9 => step q9 H9' (e7'.trans e9') h9
  · obtain ⟨⟨x2, x3, x4, x5, x6, x7, x8, x9, x10, x11, rfl⟩, N2, T2⟩ := pv
    refine q_asgP (evp_plain (K := K) (rows := ["a"]) (m := 60) (eu_tup (ea_cons ev_c ea_nil) (by show 1 ≤ 100000; decide)) (sht_nil nm_a) (by decide) (by decide) (by decide)) fun v H3 e3 r => ?_
    obtain ⟨a1, s1, nd1, c1, rfl, Ke1, D1', O1⟩ := r
    refine q_asgP (evp_plain (K := K) (rows := ["a", "b", "c"]) (m := 40) (eu_tup (ea_cons ev_c (ea_cons ev_c (ea_cons ev_c ea_nil))) (by show 3 ≤ 100000; decide)) (sht_nil nm_abc) (by decide) (by decide) (by decide)) fun v H4 e4 r => ?_
    obtain ⟨a2, s2, nd2, c2, rfl, Ke2, D2', O2⟩ := r
    have T4 := (T2.ext e3).ext e4
    refine x_ifTN ?_
    refine x_heard (due := (("passes" : Str), (61 : Int))) (Ke1.ex e4) D1' O1 (by decide) (n := "a") (by decide +kernel) (fun z => nomatch z) (.inl ⟨by decide, rfl⟩) (fun H1 => ev_var rfl) (fun H1 e1 => ev_c) T4 fun q H5 e5 T5 h5 => ?_
    refine x_evu (eu_tup (ea_cons ev_c (ea_cons ev_c ea_nil)) (by show 2 ≤ 100000; decide)) fun q2 H6 e6 h6 => ?_
    refine ne_due (e6 _ _ h5) h6 (by decide +kernel) ⟨false, rfl, ?_⟩
    rw [if_neg (by decide)]
    refine x_ret ?_
    refine x_heard (due := (("many" : Str), (120 : Int))) ((Ke2.extN e5).ex e6) D2' O2 (by decide) (n := "b") (by decide +kernel) (fun z => nomatch z) (.inr ⟨by decide, by decide, rfl⟩) (fun H1 => ev_var rfl) (fun H1 e1 => ev_c) (T5.ext e6) fun q3 H7 e7 T7 h7 => ?_
    refine x_evu (eu_tup (ea_cons ev_c (ea_cons ev_c ea_nil)) (by show 2 ≤ 100000; decide)) fun q4 H8 e8 h8 => ?_
    exact eq_due (e8 _ _ h7) h8 (by decide +kernel) (k H8)
end
end K29
set_option Elab.async false
set_option linter.all false
set_option maxRecDepth 100000
set_option maxHeartbeats 4000000
/-! The end: a promise that holds where no guard stands, asked at the law's caller. -/
namespace K29
open PySem PySem.Spec PyProof.Rows L2 Evl LamX
/-- nothing but the script, where the written part has it not, and the empty tables -/
def endH (K : PySem.W.Frag) (l : Addr) (lo : Obj) (xs : List V) (ts : List Addr) : Hp := fun b => if b ∈ ts then some (.tbl #[]) else if b = l ∧ (K.lookup l).isNone = true then some (.frz lo (.lst xs)) else none
theorem endH_cases {K : PySem.W.Frag} {l : Addr} {lo : Obj} {xs : List V} {ts : List Addr} {b : Addr} {u : HO} (h : endH K l lo xs ts b = some u) : (b ∈ ts ∧ u = .tbl #[]) ∨ (b = l ∧ K.lookup l = none ∧ u = .frz lo (.lst xs)) := by
  unfold endH at h
  split at h
  · exact .inl ⟨by assumption, (Option.some.inj h).symm⟩
  · split at h
    · rename_i h1 h2
      exact .inr ⟨h2.1, Option.isNone_iff_eq_none.mp h2.2, (Option.some.inj h).symm⟩
    · cases h
theorem end_tabs {P : Program} {w : World} {K : PySem.W.Frag} {mg mb : Str → Option Value} {k : Nat} {fa l : Addr} {cs : List (Addr × Addr)} {sp : Sp} {st : Shared} {us : List Value} {is : List Int}
    (kin : K.In st.heap) (gl : st.heap.Ns mainGlobals mg) (bl : st.heap.Ns builtinsNs mb) (boot : ∀ x : Str, x ≠ "__name__" → mb x = bootBuiltins x) (nl : st.heap.NoLimit) (gens : st.gens = #[])
    (ht : ∀ q ∈ cs, st.heap.get? q.2 = some { cls := .none, data := .fields #[] }) (hn : ∀ q ∈ cs, K.lookup q.2 = none) (hc : ∀ q ∈ cs, PySem.W.CodeHd st.heap q.1 q.2)
    (hbm : ∃ (m : Addr) (ob : Obj), mg "__builtins__" = some (.ref m) ∧ m ≠ builtinsNs ∧ st.heap.get? m = some ob ∧ ob.cls = .type "module" ∧ ob.dict = some builtinsNs ∧ ob.data = .plain)
    (hl : st.heap.get? l = some { cls := .type "list", data := .seq us.toArray }) (hi : IntsAre us is) (len : is.length ≤ sizeLine) (room : Room k callerA)
    (F : ∀ base : Heap, K.In base → base.Ns mainGlobals mg → (∀ q ∈ cs, TabB base mg q.1 q.2) → FnG P w K mg base k fa sp)
    (said : ∀ H : Hp, (∀ q ∈ cs, H q.2 = some (.tbl #[])) → SqL K H l (is.map V.int) → sp [.ref l] H (fun v _ => v = .bl true) fun _ _ _ => False) :
    codeAny (model P w) callerA (.call (.ref fa) ⟨[.ref l], []⟩) (fun r s' => r = .ok (.ret (.bool true)) ∧ OldK st.heap s'.heap ∧ s'.os = st.os ∧ AllBare s'.gens) st := by
  have vi := vals_ints hi
  have tin : ∀ {b : Addr}, b ∈ cs.map (·.2) → ∃ q ∈ cs, q.2 = b := fun h => List.mem_map.mp h
  have tget : ∀ {b : Addr}, b ∈ cs.map (·.2) → st.heap.get? b = some { cls := .none, data := .fields #[] } := fun h => by
    obtain ⟨q, hq, rfl⟩ := tin h
    exact ht q hq
  have lt : l ∉ cs.map (·.2) := fun z => by
    have h := tget z
    rw [hl] at h
    injection h with h
    injection h with _ _ h
    cases h
  generalize hlo : ({ cls := .type "list", data := .seq us.toArray } : Obj) = lo at hl
  let H : Hp := endH K l lo (is.map V.int) (cs.map (·.2))
  -- what is hidden is a list or an empty record
  have off : ∀ {b : Addr} {o : Obj}, st.heap.get? b = some o → (∀ z n, o.data ≠ .seq z n) → o.data ≠ .fields #[] → H b = none := fun {b o} e n1 n2 => by
    cases hb : H b with
    | none => rfl
    | some u =>
      rcases endH_cases hb with ⟨h, _⟩ | ⟨rfl, _, _⟩
      · rw [tget h] at e
        injection e with e
        exact absurd (by rw [← e]) n2
      · rw [hl] at e
        injection e with e
        rw [← e, ← hlo] at n1
        exact absurd rfl (n1 _ _)
  have offD : ∀ {b : Addr} {m : Str → Option Value}, st.heap.Ns b m → (hidT st.heap H).Ns b m := fun {b m} ns => by
    obtain ⟨o, es, ep, h1, h2, h3⟩ := ns
    exact ⟨o, es, ep, hidT_get h1 (off h1 (fun z n y => by rw [h2] at y; cases y) fun y => by rw [h2] at y; cases y), h2, h3⟩
  have hK : K.In (hidT st.heap H) := fun b o e => hidT_get (kin b o e) (by
    cases hb : H b with
    | none => rfl
    | some u =>
      rcases endH_cases hb with ⟨h, _⟩ | ⟨rfl, h, _⟩
      · obtain ⟨q, hq, rfl⟩ := tin h
        rw [hn q hq] at e
        cases e
      · rw [h] at e
        cases e)
  have tab : ∀ q ∈ cs, TabB (hidT st.heap H) mg q.1 q.2 := fun q hq => by
    refine ⟨?_, ?_, ?_⟩
    · obtain ⟨o, as, file, tf, flags, tg, inF, text, tt, y, c1, c2, c3, c4⟩ := hc q hq
      exact ⟨o, as, file, tf, flags, tg, inF, text, tt, hidT_get y (off y (fun z n v => by rw [c2] at v; cases v) fun v => by rw [c2] at v; injection v with v; rw [v] at c3; simp at c3), c1, c2, c3, c4⟩
    · obtain ⟨m, ob, m1, m2, m3, m4, m5, m6⟩ := hbm
      refine ⟨m, ob, m1, m2, fun z => ?_, fun z => ?_, hidT_get m3 (off m3 (fun z n v => by rw [m6] at v; cases v) fun v => by rw [m6] at v; cases v), m4, m5, m6⟩
      · obtain ⟨o, es, ep, g1, g2, _⟩ := gl
        rw [z, g1] at m3
        injection m3 with m3
        rw [m3, m6] at g2
        cases g2
      · rw [z, ht q hq] at m3
        injection m3 with m3
        rw [← m3] at m6
        cases m6
    · intro z
      obtain ⟨o, es, ep, g1, g2, _⟩ := gl
      rw [z, ht q hq] at g1
      injection g1 with g1
      rw [← g1] at g2
      cases g2
  have tabs : ∀ q ∈ cs, H q.2 = some (.tbl #[]) := fun q hq => if_pos (List.mem_map_of_mem hq)
  have seq : SqL K H l (is.map V.int) := by
    cases hk : K.lookup l with
    | some o =>
      have y := kin l o hk
      rw [hl] at y
      injection y with y
      subst y
      subst hlo
      exact .inr ⟨_, us.toArray, _, hk, rfl, rfl, rfl, by rw [List.size_toArray, hi.length]; exact len, by simpa using vi⟩
    | none => exact .inl (.inr ⟨lo, (if_neg lt).trans (if_pos ⟨rfl, by rw [hk]; rfl⟩)⟩)
  have ok : HOk P w H st.heap := fun b u hb => by
    rcases endH_cases hb with ⟨h, rfl⟩ | ⟨rfl, _, rfl⟩
    · exact tget h
    · have hl2 := hl
      rw [← hlo] at hl2
      exact ⟨hl, by rw [List.length_map]; exact len, us, _, vi, hl2⟩
  have env : Env0 P w K mg (hidT st.heap H) callerA [] st H := ⟨rfl, ⟨hK, offD gl, ⟨mb, offD bl, boot⟩, let ⟨c, n1, n2⟩ := nl; ⟨c, offD n1, n2⟩⟩, fun b o e => of_hidT e, Nat.le_of_eq (hidT_size _ _), trivial, fun b hb => (List.not_mem_nil hb).elim, ok, .of_eq gens⟩
  refine codeAny_mono (F _ hK (offD gl) tab callerA [] st H [.ref l] [.ref l] (fun v _ => v = .bl true) (fun _ _ _ => False) room rfl env (.cons rfl .nil) (said H tabs seq)) fun r s' h => ?_
  match r, h with
  | .error e, h => exact h.elim
  | .ok .next, h => exact h.elim
  | .ok .brk, h => exact h.elim
  | .ok .cont, h => exact h.elim
  | .ok (.ret u), h =>
    obtain ⟨v, H', os, bare, un, ok', rv, rfl⟩ := h
    obtain rfl : u = Value.bool true := rv
    have same : ∀ b o, b ∉ cs.map (·.2) → st.heap.get? b = some o → s'.heap.get? b = some o := fun b o nb e => by
      cases hb : H b with
      | none => exact un.keep b o e hb List.not_mem_nil (by simp)
      | some u =>
        rcases endH_cases hb with ⟨h, _⟩ | ⟨rfl, _, rfl⟩
        · exact absurd h nb
        · have h2 := (ok' b _ (un.frzs b lo _ hb)).1
          have h1 := (ok b _ hb).1
          rw [e] at h1
          rw [h2, h1]
    have more : ∀ q ∈ cs, ∃ m : Array Value, s'.heap.get? q.2 = some { cls := .none, data := .fields m } := fun q hq => by
      obtain ⟨m, z⟩ := un.tbls q.2 #[] (tabs q hq)
      exact ⟨_, ok' q.2 _ z⟩
    refine ⟨rfl, ⟨fun b o e => ?_, fun b o e => ?_⟩, os, bare⟩
    · by_cases hb : b ∈ cs.map (·.2)
      · obtain ⟨q, hq, rfl⟩ := tin hb
        obtain ⟨m, hm⟩ := more q hq
        rw [ht q hq] at e
        injection e with e
        subst e
        exact .inr (.inl ⟨((hc q hq).tab (ht q hq)).isCodeTable, rfl, #[], m, rfl, by rw [Array.empty_append]; exact hm⟩)
      · exact .inl (same b o hb e)
    · by_cases hb : b ∈ cs.map (·.2)
      · obtain ⟨q, hq, rfl⟩ := tin hb
        obtain ⟨m, hm⟩ := more q hq
        exact ⟨_, hm⟩
      · exact ⟨o, same b o hb e⟩
end K29
set_option Elab.async false
set_option linter.all false
set_option maxRecDepth 100000
set_option maxHeartbeats 0
/-! The row holds. -/
namespace K29
open PySem PySem.Spec PyProof.Rows L2 Evl LamX
theorem tn_of {K : PySem.W.Frag} {mg : Str → Option Value} (T : Tx K mg) : Tn K := fun p hp q hq e => by
  have a := T.tn_law_refused_right_law_raised_right
  have b := T.tn_law_refused_right_law
  have c := T.tn_law_raised_right_law
  let ofD : He.Defn → Addr × Str := fun d => ((He.cT K d).2, d.1 ++ ".<locals>." ++ "<lambda>")
  have mem : ∀ r, r ∈ tabT K → r = ofD ("_law_refused_right", none) ∨ r = ofD ("_law_raised_right", none) ∨ r = ofD ("law", none) := fun r hr => by
    obtain ⟨d, hd, rfl⟩ := List.mem_map.mp hr
    rcases List.mem_cons.mp hd with rfl | hd
    · exact .inl rfl
    · rcases List.mem_cons.mp hd with rfl | hd
      · exact .inr (.inl rfl)
      · rw [List.mem_singleton.mp hd]
        exact .inr (.inr rfl)
  rcases mem p hp with rfl | rfl | rfl <;> rcases mem q hq with rfl | rfl | rfl
  · rfl
  · exact absurd e a
  · exact absurd e b
  · exact absurd e.symm a
  · rfl
  · exact absurd e c
  · exact absurd e.symm b
  · exact absurd e.symm c
  · rfl
theorem walks {q : Program} {loose : List Str} {XP : (Str → Option Value) → Heap → Prop} {d : DefRec} (hdf : d.params.defaults = []) (hname : d.name = "law") :
    PySem.W.WalkO q loose XP hk.says (PySem.W.OpenLaw.row PySem.Challenge.rw_passwidth_k29_whole_one_more_pass_keeps).toRowW d [] (fun f vs => PySem.call f vs) := by
  refine Att.attach_callB (l := PySem.Challenge.rw_passwidth_k29_whole_one_more_pass_keeps) (n := 63) rfl hdf fun w s₀ st mg mb fa' o pm cd doc a vs ns G Y ho hd hcd hmg hobj hints hlen hbits hg => ?_
  obtain ⟨K, kin, c⟩ := Y
  have T : Tx K mg := tx_of kin G.T.g c
  have e := hmg
  rw [hname, T.g_law] at e
  injection e with e
  injection e with e
  subst e
  refine end_tabs (cs := tf.map (He.cT K)) (k := 13) (sp := spLaw K) kin G.T.g G.T.b G.T.builtins G.T.nolimit hg (fun p hp => ?_) (fun p hp => ?_) (fun p hp => ?_) G.T.bmain hobj hints (Nat.le_trans hlen (by decide +kernel)) ⟨rfl, by decide, by decide⟩ (fun base hB hN TB => ?_) fun H ht hS => ?_
  · obtain ⟨t, h1, rfl⟩ := List.mem_map.mp hp
    exact (c.tb t h1).2.2
  · obtain ⟨t, h1, rfl⟩ := List.mem_map.mp hp
    exact (c.tb t h1).2.1
  · obtain ⟨t, h1, rfl⟩ := List.mem_map.mp hp
    exact PySem.W.codeHd_of_K kin (c.tb t h1).1
  · exact ok_law T (tn_of T) fun t h1 => TB _ (List.mem_map_of_mem h1)
  · refine ⟨a, ns, rfl, hS, fun r hr => ?_, fun _ => rfl⟩
    obtain ⟨t, h1, rfl⟩ := List.mem_map.mp hr
    exact TabS.nil (ht _ (List.mem_map_of_mem h1))
end K29
open PySem PySem.W PySem.Calls PyProof.Rows
theorem PySem.Challenge.cw_passwidth_k29_whole_one_more_pass_keeps_holds : PySem.Challenge.rw_passwidth_k29_whole_one_more_pass_keeps.Holds := by
  w_on; o_law
  refine HandSHeadRun.head_any (r := OpenLaw.row PySem.Challenge.rw_passwidth_k29_whole_one_more_pass_keeps) (q := view (OpenLaw.row PySem.Challenge.rw_passwidth_k29_whole_one_more_pass_keeps).prog [68]) (H := K29.hk) (ob := K29.ob) (M := 60000) (loose := K29.loose) (d := HandSHeadRun.topDef (OpenLaw.row PySem.Challenge.rw_passwidth_k29_whole_one_more_pass_keeps).prog 68) (kwd := []) K29.ob_eq
    (by kernel_rfl) (fun s => by kernel_rfl) K29.run (by kernel_rfl) (by kernel_rfl) (by kernel_rfl) (by rfl) (by first | assumption | decide +kernel) (by decide +kernel) ⟨rfl, rfl, rfl, rfl, rfl, by decide +kernel⟩ ?hw ?hc
  case hw => w_witness2
  case hc => exact K29.walks (by kernel_rfl) (by kernel_rfl)
