import PyProof.Rows.All
import Wide.All
import OpenK.AllK
import Wide.FinOn
import HandS.ForMost
import HandS.Exc
import HandS.ExcCtx
import HandS.WordsExc
import HandS.Lambda
import HandS.Defaults
import HandS.CallSlots
import KE.KDictKeyed
import HandS.ExcOwn
import HandS.SortInts
import HandS.Zip
import HandS.WideBits
import HandS.More
import HandS.SetFor
import HandS.Conv
import HandS.OwnEq
import HandS.NoneIn
import KE.GoesMore
import HandS.Codes
import HandS.Head0
import HandS.Head1
import HandS.Head2
import HandS.HeadEnd
import HandS.HeadHook1
import HandS.HeadHook2
import HandS.HeadHook3
import HandS.HeadHook4
import HandS.HeadWalk
import HandS.EndTab
import HandS.TupAny
import HandS.HotCalls
import HandS.ExcIs
import HandS.ExcField
import HandS.IsInst
import HandS.SetBool
import HandS.SortKw
import PyProof.MinMaxWalk
import HandS.Strs
import HandS.Dict
import HandS.Style
import PyProof.WalksMore
import HandS.MakeKwOnly
import HandS.WordsDict
import HandS.Small
import HandS.Text
import PyProof.CollectIter
import HandS.ExcInit
import KE.GoesZip
import HandS.FStr
import PyProof.InstNe
import HandS.DictComp
import PyProof.StrOps2
import KE.KIndexOf
import PyProof.ListStr
import HandS.TupLe
import KE.KDictPairs
import HandS.TupMul
import KE.SortData
import PyProof.SumWalkG
import PyProof.NeKinds
import PyProof.EqAt
import PyProof.EqLayable
import PyProof.Rows.InDataRows
import KE.KDictCopyH
import PyProof.StrLaws
import HandS.FltList
import HandS.ExcValue
import PyProof.ReprRoads
import HandS.Replace
import HandS.ReplaceList
import PySem.Challenge.RW_foldberth_k68_whole_languages_side_by_si
set_option Elab.async false
set_option linter.all false
set_option autoImplicit false
set_option maxRecDepth 100000
set_option maxHeartbeats 4000000
namespace Hz
open PySem PySem.Spec PyProof.Rows L2
def blFa : List He.Fa := [.free "len", .free "range", .free "enumerate", .free "zip", .free "sorted", .free "sum", .free "all", .free "any", .free "list", .free "tuple", .free "int", .free "isinstance", .free "min", .free "max", .free "set", .free "abs", .free "bool", .free "str", .free "repr", .free "dict"]
def oexB (K : PySem.W.Frag) (C : Addr) : Bool := (match K.lookup C with
  | some ⟨.type "type", _, .cls cd, sl⟩ => (match cd.mro, sl.toList with
    | .ref C' :: bm, [_, _, _, _, some (.builtin n), _] => C' == C && n == "ValueError.__new__" && !cd.hasDel && cd.hasDict && PySem.HandSPX.refsVE bm
    | _, _ => false)
  | _ => false) && (He.eqO (PySem.W.findIn K (.ref C) "__setattr__") (some (some (.builtin "object.__setattr__"))) && (decide (PySem.W.subIn K (.ref C) (.type "BaseException") = some true) && (decide (PySem.W.typeIn K (.ref C) = some (.type "type")) && PySem.W.keepIn K (.ref C))))
def basB (K : PySem.W.Frag) (B : Addr) : Bool := He.eqO (PySem.W.specialIn K (.ref B) "__getattribute__") (some (some (.builtin "type.__getattribute__"))) && (decide (PySem.W.typeIn K (.ref B) = some (.type "type")) && (PySem.W.readsIn K B (.type "type") && (match PySem.W.findCls K (.ref B) (.type "type") "__init__" with | some (.val (.builtin n)) => n == "ValueError.__init__" | _ => false)))
def xmB (K : PySem.W.Frag) (c f : Str) : Bool := He.eqO (PySem.W.findIn K (.ref (He.ga K c)) f) (some none) && (He.eqO (PySem.W.findIn K (.ref (He.ga K c)) "__init__") (some (some (.ref (He.ma K (He.ga K c) "__init__")))) && decide (PySem.W.typeIn K (.ref (He.ma K (He.ga K c) "__init__")) = some (.type "function")))
def frZ (g : Addr → Option Obj) (as : List Addr) : PySem.W.Frag := He.frT g as
def obsZ (as : List Addr) (fa : List He.Fa) (fn : List He.DefD) (ts : List He.Tab) (tf : List He.Defn) (ex : PySem.W.Frag → Bool) (g : Addr → Option Obj) : He.AlX :=
  (He.obsT fa fn ts (frZ g as), ex (frZ g as) && He.tabsB g tf (frZ g as))
theorem saysZ_of {as : List Addr} {fa : List He.Fa} {fn : List He.DefD} {ts : List He.Tab} {tf : List He.Defn} {ex : PySem.W.Frag → Bool} {w : World} {h : Heap} (e : obsZ as fa fn ts tf ex h.get? = He.valX fn ts w) : He.SaysX fa fn ts tf ex w h (frZ h.get? as) := by
  have z1 := congrArg Prod.fst e
  have z2 : (ex (frZ h.get? as) && He.tabsB h.get? tf (frZ h.get? as)) = true := congrArg Prod.snd e
  obtain ⟨y1, y2⟩ := He.ba z2
  have tabs : ∀ p ∈ tf, PySem.W.codeHdIn (frZ h.get? as) (He.cT (frZ h.get? as) p).1 (He.cT (frZ h.get? as) p).2 = true ∧ ∃ o, h.get? (He.cT (frZ h.get? as) p).2 = some o ∧ He.emptyTab o = true := fun p hp => by
    obtain ⟨y3, y4⟩ := He.ba (List.all_eq_true.mp y2 p hp)
    refine ⟨y3, ?_⟩
    split at y4
    · rename_i o q
      exact ⟨o, q, y4⟩
    · cases y4
  refine ⟨z1, y1, fun p hp => (tabs p hp).1, fun p hp => ?_, fun p hp => ?_⟩
  · obtain ⟨_, o, q, z⟩ := tabs p hp
    exact He.frT_none q z
  · obtain ⟨_, o, q, z⟩ := tabs p hp
    exact q.trans (congrArg some (He.emptyTab_eq z))
def hookZ (as : List Addr) (fa : List He.Fa) (fn : List He.DefD) (ts : List He.Tab) (tf : List He.Defn) (ex : PySem.W.Frag → Bool) : PySem.W.Hook where
  α := He.AlX
  obs := fun s => obsZ as fa fn ts tf ex s.heap.get?
  val := fun w => He.valX fn ts w
  says := (He.hookX 0 fa fn ts tf ex).says
  of := fun _ _ e => ⟨_, He.frT_in, saysZ_of e⟩
  keeps := (He.hookX 0 fa fn ts tf ex).keeps
theorem obsZ_eq {as : List Addr} {fa : List He.Fa} {fn : List He.DefD} {ts : List He.Tab} {tf : List He.Defn} {ex : PySem.W.Frag → Bool} {g : Addr → Option Obj} {s : Shared} (h : ∀ a, g a = s.heap.get? a) : obsZ as fa fn ts tf ex g = (hookZ as fa fn ts tf ex).obs s := by
  obtain rfl : g = s.heap.get? := funext h
  rfl
theorem obsZ_two {as : List Addr} {fa1 fa2 : List He.Fa} {fn1 fn2 : List He.DefD} {tf : List He.Defn} {ex ex1 ex2 : PySem.W.Frag → Bool} {w : World} {g : Addr → Option Obj} (hex : ∀ K, ex K = (ex1 K && ex2 K)) (e1 : obsZ as fa1 fn1 [] [] ex1 g = He.valX fn1 [] w) (e2 : obsZ as fa2 fn2 [] tf ex2 g = He.valX fn2 [] w) : obsZ as (fa1 ++ fa2) (fn1 ++ fn2) [] tf ex g = He.valX (fn1 ++ fn2) [] w := by
  have a1 : (He.obsD fa1 fn1 (frZ g as)) = He.valD fn1 := congrArg (fun z : He.AlX => z.1.1) e1
  have a2 : (He.obsD fa2 fn2 (frZ g as)) = He.valD fn2 := congrArg (fun z : He.AlX => z.1.1) e2
  have b1 : (ex1 (frZ g as) && He.tabsB g [] (frZ g as)) = true := congrArg (fun z : He.AlX => z.2) e1
  have b2 : (ex2 (frZ g as) && He.tabsB g tf (frZ g as)) = true := congrArg (fun z : He.AlX => z.2) e2
  have c1 := congrArg (fun z : He.AlD => z.1) a1
  have c2 := congrArg (fun z : He.AlD => z.1) a2
  have d1 := congrArg (fun z : He.AlD => z.2) a1
  have d2 := congrArg (fun z : He.AlD => z.2) a2
  simp only [He.obsD, He.valD, Bool.and_eq_true] at c1 c2 d1 d2 b1 b2
  have dd : He.obsD (fa1 ++ fa2) (fn1 ++ fn2) (frZ g as) = He.valD (fn1 ++ fn2) := by
    unfold He.obsD He.valD
    rw [List.all_append, List.all_append, List.map_append, List.map_append, d1, d2, c1.1, c1.2, c2.1, c2.2]
    rfl
  have xx : (ex (frZ g as) && He.tabsB g tf (frZ g as)) = true := by
    rw [hex, b1.1, b2.1, b2.2]
    rfl
  show ((He.obsD (fa1 ++ fa2) (fn1 ++ fn2) (frZ g as), []), _) = ((He.valD (fn1 ++ fn2), []), true)
  rw [dd, xx]
theorem runEq_four {r : PySem.W.OpenRow} {q : Program} {H : PySem.W.Hook} {ob : PySem.W.SharedT → H.α} {α β : Type} {ob1 : PySem.W.SharedT → α} {ob2 : PySem.W.SharedT → β} {v1 : α} {v2 : β} {M : Nat} {loose : List PySem.Str} {w : World}
    (h1 : ∀ os : OsState, (HandSHeadRun.endF (HandSHeadRun.stepQ (HandSHeadRun.denQ HandSHeadRun.tabQ) r.prog w) M r.prog w os).map (fun s => HandSHeadRun.looksF r.prog (PySem.W.boot_heap w.params) s.abs) = some true)
    (h2 : ∀ os : OsState, (HandSHeadRun.endF (HandSHeadRun.stepQ (HandSHeadRun.denQ HandSHeadRun.tabQ) r.prog w) M r.prog w os).map (fun s => HandSHeadRun.seenQ q loose (importedModules r.prog.main.body) (fun s => PySem.W.xlAt q [] s && PySem.W.recOk r.toRowW.records s) s.abs) = some (PySem.W.openGood q loose))
    (h3 : ∀ os : OsState, (HandSHeadRun.endF (HandSHeadRun.stepQ (HandSHeadRun.denQ HandSHeadRun.tabQ) r.prog w) M r.prog w os).map ob1 = some v1)
    (h4 : ∀ os : OsState, (HandSHeadRun.endF (HandSHeadRun.stepQ (HandSHeadRun.denQ HandSHeadRun.tabQ) r.prog w) M r.prog w os).map ob2 = some v2)
    (hc : ∀ s, ob1 s = v1 → ob2 s = v2 → ob s = H.val w) : HandSHeadRun.RunEq r q H ob M loose w := fun os => by
  have a := h1 os
  have b := h2 os
  have c := h3 os
  have d := h4 os
  cases e : HandSHeadRun.endF (HandSHeadRun.stepQ (HandSHeadRun.denQ HandSHeadRun.tabQ) r.prog w) M r.prog w os with
  | none => rw [e] at a; cases a
  | some s =>
    rw [e] at a b c d
    have a' := Option.some.inj a
    have b' := Option.some.inj b
    have k := hc s (Option.some.inj c) (Option.some.inj d)
    exact congrArg some (Prod.ext a' (Prod.ext b' k))
end Hz
namespace K68
open PySem L2
def top (i : Nat) : Stmt := PySem.Challenge.pw_foldberth_k68_whole_languages_side_by_si.main.body.getD i (.Pass ⟨0, 0, 0, 0⟩)
abbrev s_BadTextU_initU : Stmt := inClass (top 16) 0
abbrev s_NoTableU_initU : Stmt := inClass (top 17) 0
abbrev s__law_box : Stmt := top 49
abbrev s__law_take : Stmt := top 50
abbrev s__law_of : Stmt := top 51
abbrev s__law_wide : Stmt := top 57
abbrev s__law_shuffled : Stmt := top 52
abbrev s__law_numbers : Stmt := top 53
abbrev s__law_lines : Stmt := top 56
abbrev s_is_name : Stmt := top 29
abbrev s_need_sides : Stmt := top 30
abbrev s_words_of : Stmt := top 31
abbrev s_spread_text : Stmt := top 32
abbrev s_parts_of : Stmt := top 33
abbrev s_ReaderU_initU : Stmt := inClass (top 34) 0
abbrev s_Reader_ahead : Stmt := inClass (top 34) 1
abbrev s_Reader_wrong : Stmt := inClass (top 34) 2
abbrev s_Reader_take : Stmt := inClass (top 34) 3
abbrev s_read_sum : Stmt := top 35
abbrev s_read_spread : Stmt := top 36
abbrev s_BodyU_initU : Stmt := inClass (top 47) 0
abbrev s__law_cells : Stmt := top 55
abbrev s_Body_need_new : Stmt := inClass (top 47) 6
abbrev s_digits_of : Stmt := top 46
abbrev s_TableU_initU : Stmt := inClass (top 41) 0
abbrev s_Fold_many : Stmt := inClass (top 38) 5
abbrev s_blended : Stmt := top 21
abbrev s_picked : Stmt := top 22
abbrev s_Fold_to : Stmt := inClass (top 38) 7
abbrev s_laid : Stmt := top 42
abbrev s_FoldU_initU : Stmt := inClass (top 38) 0
abbrev s_top_of : Stmt := top 20
abbrev s_reduced : Stmt := top 23
abbrev s_basis_of : Stmt := top 24
abbrev s_Fold_onto : Stmt := inClass (top 38) 9
abbrev s_Body_need_spread : Stmt := inClass (top 47) 7
abbrev s_Body_lay : Stmt := inClass (top 47) 10
abbrev s_Body_need : Stmt := inClass (top 47) 4
abbrev s_Table_berth_now : Stmt := inClass (top 41) 2
abbrev s_Body_held : Stmt := inClass (top 47) 27
abbrev s__law_images : Stmt := top 54
abbrev s_Fold_rows : Stmt := inClass (top 38) 4
abbrev s_Fold_size : Stmt := inClass (top 38) 6
abbrev s_Fold_then : Stmt := inClass (top 38) 11
abbrev s_law : Stmt := top 58
def d_BadTextU_initU : He.DefD := ⟨("BadText", some "__init__"), "__init__", "BadText.__init__", defArgs s_BadTextU_initU, defBody s_BadTextU_initU, defScope s_BadTextU_initU, [], []⟩
def d_NoTableU_initU : He.DefD := ⟨("NoTable", some "__init__"), "__init__", "NoTable.__init__", defArgs s_NoTableU_initU, defBody s_NoTableU_initU, defScope s_NoTableU_initU, [], []⟩
def d__law_box : He.DefD := ⟨("_law_box", none), "_law_box", "_law_box", defArgs s__law_box, defBody s__law_box, defScope s__law_box, [], []⟩
def d__law_take : He.DefD := ⟨("_law_take", none), "_law_take", "_law_take", defArgs s__law_take, defBody s__law_take, defScope s__law_take, [], []⟩
def d__law_of : He.DefD := ⟨("_law_of", none), "_law_of", "_law_of", defArgs s__law_of, defBody s__law_of, defScope s__law_of, [], []⟩
def d__law_wide : He.DefD := ⟨("_law_wide", none), "_law_wide", "_law_wide", defArgs s__law_wide, defBody s__law_wide, defScope s__law_wide, [], []⟩
def d__law_shuffled : He.DefD := ⟨("_law_shuffled", none), "_law_shuffled", "_law_shuffled", defArgs s__law_shuffled, defBody s__law_shuffled, defScope s__law_shuffled, [], []⟩
def d__law_numbers : He.DefD := ⟨("_law_numbers", none), "_law_numbers", "_law_numbers", defArgs s__law_numbers, defBody s__law_numbers, defScope s__law_numbers, [], []⟩
def d__law_lines : He.DefD := ⟨("_law_lines", none), "_law_lines", "_law_lines", defArgs s__law_lines, defBody s__law_lines, defScope s__law_lines, [], []⟩
def d_is_name : He.DefD := ⟨("is_name", none), "is_name", "is_name", defArgs s_is_name, defBody s_is_name, defScope s_is_name, [], []⟩
def d_need_sides : He.DefD := ⟨("need_sides", none), "need_sides", "need_sides", defArgs s_need_sides, defBody s_need_sides, defScope s_need_sides, [], []⟩
def d_words_of : He.DefD := ⟨("words_of", none), "words_of", "words_of", defArgs s_words_of, defBody s_words_of, defScope s_words_of, [], []⟩
def d_spread_text : He.DefD := ⟨("spread_text", none), "spread_text", "spread_text", defArgs s_spread_text, defBody s_spread_text, defScope s_spread_text, [], [("lane", .int 0)]⟩
def d_parts_of : He.DefD := ⟨("parts_of", none), "parts_of", "parts_of", defArgs s_parts_of, defBody s_parts_of, defScope s_parts_of, [], []⟩
def d_ReaderU_initU : He.DefD := ⟨("Reader", some "__init__"), "__init__", "Reader.__init__", defArgs s_ReaderU_initU, defBody s_ReaderU_initU, defScope s_ReaderU_initU, [], []⟩
def d_Reader_ahead : He.DefD := ⟨("Reader", some "ahead"), "ahead", "Reader.ahead", defArgs s_Reader_ahead, defBody s_Reader_ahead, defScope s_Reader_ahead, [], []⟩
def d_Reader_wrong : He.DefD := ⟨("Reader", some "wrong"), "wrong", "Reader.wrong", defArgs s_Reader_wrong, defBody s_Reader_wrong, defScope s_Reader_wrong, [], []⟩
def d_Reader_take : He.DefD := ⟨("Reader", some "take"), "take", "Reader.take", defArgs s_Reader_take, defBody s_Reader_take, defScope s_Reader_take, [], []⟩
def d_read_sum : He.DefD := ⟨("read_sum", none), "read_sum", "read_sum", defArgs s_read_sum, defBody s_read_sum, defScope s_read_sum, [], []⟩
def d_read_spread : He.DefD := ⟨("read_spread", none), "read_spread", "read_spread", defArgs s_read_spread, defBody s_read_spread, defScope s_read_spread, [], [("lane", .int 0)]⟩
def d_BodyU_initU : He.DefD := ⟨("Body", some "__init__"), "__init__", "Body.__init__", defArgs s_BodyU_initU, defBody s_BodyU_initU, defScope s_BodyU_initU, [], [("banks", .int 2)]⟩
def d__law_cells : He.DefD := ⟨("_law_cells", none), "_law_cells", "_law_cells", defArgs s__law_cells, defBody s__law_cells, defScope s__law_cells, [], []⟩
def d_Body_need_new : He.DefD := ⟨("Body", some "need_new"), "need_new", "Body.need_new", defArgs s_Body_need_new, defBody s_Body_need_new, defScope s_Body_need_new, [], []⟩
def d_digits_of : He.DefD := ⟨("digits_of", none), "digits_of", "digits_of", defArgs s_digits_of, defBody s_digits_of, defScope s_digits_of, [], []⟩
def d_TableU_initU : He.DefD := ⟨("Table", some "__init__"), "__init__", "Table.__init__", defArgs s_TableU_initU, defBody s_TableU_initU, defScope s_TableU_initU, [], [("move", .non)]⟩
def d_Fold_many : He.DefD := ⟨("Fold", some "many"), "many", "Fold.many", defArgs s_Fold_many, defBody s_Fold_many, defScope s_Fold_many, [], []⟩
def d_blended : He.DefD := ⟨("blended", none), "blended", "blended", defArgs s_blended, defBody s_blended, defScope s_blended, [], []⟩
def d_picked : He.DefD := ⟨("picked", none), "picked", "picked", defArgs s_picked, defBody s_picked, defScope s_picked, [], []⟩
def d_Fold_to : He.DefD := ⟨("Fold", some "to"), "to", "Fold.to", defArgs s_Fold_to, defBody s_Fold_to, defScope s_Fold_to, [], []⟩
def d_laid : He.DefD := ⟨("laid", none), "laid", "laid", defArgs s_laid, defBody s_laid, defScope s_laid, [], []⟩
def d_FoldU_initU : He.DefD := ⟨("Fold", some "__init__"), "__init__", "Fold.__init__", defArgs s_FoldU_initU, defBody s_FoldU_initU, defScope s_FoldU_initU, [], []⟩
def d_top_of : He.DefD := ⟨("top_of", none), "top_of", "top_of", defArgs s_top_of, defBody s_top_of, defScope s_top_of, [], []⟩
def d_reduced : He.DefD := ⟨("reduced", none), "reduced", "reduced", defArgs s_reduced, defBody s_reduced, defScope s_reduced, [], []⟩
def d_basis_of : He.DefD := ⟨("basis_of", none), "basis_of", "basis_of", defArgs s_basis_of, defBody s_basis_of, defScope s_basis_of, [], []⟩
def d_Fold_onto : He.DefD := ⟨("Fold", some "onto"), "onto", "Fold.onto", defArgs s_Fold_onto, defBody s_Fold_onto, defScope s_Fold_onto, [], []⟩
def d_Body_need_spread : He.DefD := ⟨("Body", some "need_spread"), "need_spread", "Body.need_spread", defArgs s_Body_need_spread, defBody s_Body_need_spread, defScope s_Body_need_spread, [], []⟩
def d_Body_lay : He.DefD := ⟨("Body", some "lay"), "lay", "Body.lay", defArgs s_Body_lay, defBody s_Body_lay, defScope s_Body_lay, [], []⟩
def d_Body_need : He.DefD := ⟨("Body", some "need"), "need", "Body.need", defArgs s_Body_need, defBody s_Body_need, defScope s_Body_need, [], []⟩
def d_Table_berth_now : He.DefD := ⟨("Table", some "berth_now"), "berth_now", "Table.berth_now", defArgs s_Table_berth_now, defBody s_Table_berth_now, defScope s_Table_berth_now, [], []⟩
def d_Body_held : He.DefD := ⟨("Body", some "held"), "held", "Body.held", defArgs s_Body_held, defBody s_Body_held, defScope s_Body_held, [], []⟩
def d__law_images : He.DefD := ⟨("_law_images", none), "_law_images", "_law_images", defArgs s__law_images, defBody s__law_images, defScope s__law_images, [], []⟩
def d_Fold_rows : He.DefD := ⟨("Fold", some "rows"), "rows", "Fold.rows", defArgs s_Fold_rows, defBody s_Fold_rows, defScope s_Fold_rows, [], []⟩
def d_Fold_size : He.DefD := ⟨("Fold", some "size"), "size", "Fold.size", defArgs s_Fold_size, defBody s_Fold_size, defScope s_Fold_size, [], []⟩
def d_Fold_then : He.DefD := ⟨("Fold", some "then"), "then", "Fold.then", defArgs s_Fold_then, defBody s_Fold_then, defScope s_Fold_then, [], []⟩
def d_law : He.DefD := ⟨("law", none), "law", "law", defArgs s_law, defBody s_law, defScope s_law, [], []⟩
def fns1 : List He.DefD := [d__law_box, d__law_take, d__law_of, d__law_wide, d__law_shuffled, d__law_numbers, d__law_lines, d_is_name, d_need_sides, d_words_of, d_spread_text, d_parts_of, d_ReaderU_initU, d_Reader_ahead, d_Reader_wrong, d_Reader_take, d_read_sum, d_read_spread, d_BodyU_initU, d__law_cells, d_Body_need_new, d_digits_of, d_TableU_initU]
def fns2 : List He.DefD := [d_Fold_many, d_blended, d_picked, d_Fold_to, d_laid, d_FoldU_initU, d_top_of, d_reduced, d_basis_of, d_Fold_onto, d_Body_need_spread, d_Body_lay, d_Body_need, d_Table_berth_now, d_Body_held, d__law_images, d_Fold_rows, d_Fold_size, d_Fold_then, d_law, d_BadTextU_initU, d_NoTableU_initU]
def fns : List He.DefD := fns1 ++ fns2
def tfd : List He.Defn := []
def facl1 : List He.Fa := Hz.blFa ++ [.glo "_law_box", .glo "_law_take", .glo "_law_of", .glo "_law_wide", .glo "_law_shuffled", .glo "_law_numbers", .glo "_law_lines", .str "SMALL" "abcdefghijklmnopqrstuvwxyz", .glo "is_name", .glo "BadSides", .exc "BadSides", .int "MOST_DIGITS" 12, .glo "need_sides", .glo "words_of", .glo "BadRows", .exc "BadRows", .glo "spread_text", .glo "parts_of", .cls "Reader", .noat "Reader" "found", .noat "Reader" "step", .noat "Reader" "end", .mkr "Reader", .glo "Reader", .meth "Reader" "ahead", .meth "Reader" "wrong", .glo "FoldError", .glo "BadText", .meth "Reader" "take", .glo "read_sum", .glo "read_spread", .glo "BadSize", .exc "BadSize", .cls "Body", .noat "Body" "wide", .noat "Body" "tables", .noat "Body" "store", .noat "Body" "dues", .mkr "Body", .glo "Body", .glo "_law_cells", .glo "BadName", .exc "BadName", .glo "Taken", .exc "Taken", .int "MOST_TABLES" 6]
def facl2 : List He.Fa := [.glo "Full", .exc "Full", .meth "Body" "need_new", .glo "BadCells", .exc "BadCells", .glo "digits_of", .int "MOST" 1000000000, .glo "BadFold", .exc "BadFold", .cls "Fold", .noat "Fold" "lines", .noat "Fold" "wide", .mkr "Fold", .glo "Fold", .glo "top_of", .glo "reduced", .glo "basis_of", .meth "Fold" "onto", .meth "Body" "need_spread", .cls "Table", .noat "Table" "spread", .noat "Table" "grip", .noat "Table" "move", .mkr "Table", .glo "Table", .meth "Fold" "many", .glo "BadNumber", .exc "BadNumber", .glo "blended", .glo "picked", .meth "Fold" "to", .glo "laid", .meth "Body" "lay", .glo "NoTable", .meth "Body" "need", .glo "NoBerth", .exc "NoBerth", .meth "Table" "berth_now", .meth "Body" "held", .glo "_law_images", .meth "Fold" "rows", .glo "Unfit", .exc "Unfit", .meth "Fold" "size", .meth "Fold" "then", .glo "law"]
def facl : List He.Fa := facl1 ++ facl2
def exs1 : List (PySem.W.Frag → Bool) := [fun K => Hz.basB K (He.ga K "FoldError"), fun K => Hz.xmB K "BadText" "at", fun K => Hz.oexB K (He.ga K "BadText")]
def exs2 : List (PySem.W.Frag → Bool) := [fun K => Hz.xmB K "NoTable" "name", fun K => Hz.oexB K (He.ga K "NoTable")]
def exs : List (PySem.W.Frag → Bool) := exs1 ++ exs2
def ex (K : PySem.W.Frag) : Bool := exs.all fun f => f K
abbrev R : PySem.W.OpenRow := PySem.W.OpenLaw.row PySem.Challenge.rw_foldberth_k68_whole_languages_side_by_si
def asl0 : List Addr := [3, 6, 4, 21, 31, 44, 56, 68, 80, 92, 104, 116, 128, 140, 152, 164, 176, 188, 207, 226, 235, 242, 247, 254, 259, 266, 273, 278, 283, 288]
def asl1 : List Addr := [294, 301, 339, 350, 356, 474, 508, 517, 524, 776, 787, 794, 801, 808, 813, 818, 823, 828, 835, 840, 0, 20, 30, 43, 55, 67, 79, 91, 103, 115]
def asl2 : List Addr := [127, 139, 151, 163, 175, 187, 206, 225, 234, 241, 246, 253, 258, 265, 272, 277, 282, 287, 293, 289, 300, 338, 349, 355, 351, 473, 507, 516, 523, 775]
def asl3 : List Addr := [786, 793, 800, 807, 812, 817, 822, 827, 834, 839, 15, 16, 17, 18, 19, 29, 32, 42, 54, 66, 78, 90, 102, 114, 126, 138, 150, 162, 174, 186]
def asl4 : List Addr := [204, 205, 223, 224, 229, 230, 231, 232, 233, 236, 237, 238, 239, 240, 243, 244, 245, 248, 249, 250, 251, 252, 255, 256, 257, 260, 261, 262, 263, 264]
def asl5 : List Addr := [267, 268, 269, 270, 271, 274, 275, 276, 279, 280, 281, 284, 285, 286, 290, 291, 292, 295, 296, 297, 298, 299, 315, 322, 329, 336, 337, 340, 341, 344]
def asl6 : List Addr := [345, 346, 347, 348, 352, 353, 354, 370, 377, 384, 391, 398, 405, 412, 419, 426, 433, 440, 445, 452, 459, 466, 471, 472, 475, 476, 493, 498, 505, 506]
def asl7 : List Addr := [509, 510, 513, 514, 515, 518, 519, 520, 521, 522, 539, 546, 553, 560, 567, 574, 581, 586, 593, 600, 605, 612, 619, 626, 633, 640, 647, 654, 662, 669]
def asl8 : List Addr := [677, 684, 691, 698, 705, 712, 719, 726, 731, 738, 745, 752, 759, 766, 773, 774, 777, 778, 781, 782, 783, 784, 785, 788, 789, 790, 791, 792, 795, 796]
def asl9 : List Addr := [797, 798, 799, 802, 803, 804, 805, 806, 809, 810, 811, 814, 815, 816, 819, 820, 821, 824, 825, 826, 829, 830, 831, 832, 833, 836, 837, 838, 203, 222]
def asl10 : List Addr := [314, 321, 328, 335, 369, 376, 383, 390, 397, 404, 411, 418, 425, 432, 439, 444, 451, 458, 465, 470, 492, 486, 497, 504, 538, 532, 545, 552, 559, 566]
def asl11 : List Addr := [573, 580, 585, 592, 599, 604, 611, 618, 625, 632, 639, 646, 653, 661, 655, 668, 676, 670, 683, 690, 697, 704, 711, 718, 725, 730, 737, 744, 751, 758]
def asl12 : List Addr := [765, 772, 198, 199, 200, 201, 202, 217, 218, 219, 220, 221, 309, 310, 311, 312, 313, 316, 317, 318, 319, 320, 323, 324, 325, 326, 327, 330, 331, 332]
def asl13 : List Addr := [333, 334, 364, 365, 366, 367, 368, 371, 372, 373, 374, 375, 378, 379, 380, 381, 382, 385, 386, 387, 388, 389, 392, 393, 394, 395, 396, 399, 400, 401]
def asl14 : List Addr := [402, 403, 406, 407, 408, 409, 410, 413, 414, 415, 416, 417, 420, 421, 422, 423, 424, 427, 428, 429, 430, 431, 434, 435, 436, 437, 438, 441, 442, 443]
def asl15 : List Addr := [446, 447, 448, 449, 450, 453, 454, 455, 456, 457, 460, 461, 462, 463, 464, 467, 468, 469, 487, 488, 489, 490, 491, 494, 495, 496, 499, 500, 501, 502]
def asl16 : List Addr := [503, 533, 534, 535, 536, 537, 540, 541, 542, 543, 544, 547, 548, 549, 550, 551, 554, 555, 556, 557, 558, 561, 562, 563, 564, 565, 568, 569, 570, 571]
def asl17 : List Addr := [572, 575, 576, 577, 578, 579, 582, 583, 584, 587, 588, 589, 590, 591, 594, 595, 596, 597, 598, 601, 602, 603, 606, 607, 608, 609, 610, 613, 614, 615]
def asl18 : List Addr := [616, 617, 620, 621, 622, 623, 624, 627, 628, 629, 630, 631, 634, 635, 636, 637, 638, 641, 642, 643, 644, 645, 648, 649, 650, 651, 652, 656, 657, 658]
def asl19 : List Addr := [659, 660, 663, 664, 665, 666, 667, 671, 672, 673, 674, 675, 678, 679, 680, 681, 682, 685, 686, 687, 688, 689, 692, 693, 694, 695, 696, 699, 700, 701]
def asl20 : List Addr := [702, 703, 706, 707, 708, 709, 710, 713, 714, 715, 716, 717, 720, 721, 722, 723, 724, 727, 728, 729, 732, 733, 734, 735, 736, 739, 740, 741, 742, 743]
def asl21 : List Addr := [746, 747, 748, 749, 750, 753, 754, 755, 756, 757, 760, 761, 762, 763, 764, 767, 768, 769, 770, 771]
def asl : List Addr := cStatics :: (asl0 ++ asl1 ++ asl2 ++ asl3 ++ asl4 ++ asl5 ++ asl6 ++ asl7 ++ asl8 ++ asl9 ++ asl10 ++ asl11 ++ asl12 ++ asl13 ++ asl14 ++ asl15 ++ asl16 ++ asl17 ++ asl18 ++ asl19 ++ asl20 ++ asl21)
abbrev hk : PySem.W.Hook := Hz.hookZ asl facl fns [] tfd ex
def ob (s : PySem.W.SharedT) : He.AlX := Hz.obsZ asl facl fns [] tfd ex (HandSHeadRun.getT s)
theorem ob_eq (s : PySem.W.SharedT) : ob s = hk.obs s.abs := Hz.obsZ_eq (HandSHeadRun.getT_eq s)
def loose0 : List Str := ["_wall", "FoldError", "BadNumber", "BadFold", "Unfit", "NotOnto", "BadSides", "BadSize", "NoBerth", "NoCell", "BadName", "Taken", "Full", "BadRows", "BadCells", "BadText", "NoTable", "MOST_DIGITS", "top_of", "blended", "picked", "reduced", "basis_of", "traced", "trail_to", "SMALL", "is_name", "need_sides", "words_of", "spread_text"]
def loose1 : List Str := ["parts_of", "Reader", "read_sum", "read_spread", "Fold", "BANKS", "Table", "laid", "MOST", "MOST_TABLES", "digits_of", "Body", "_law_box", "_law_take", "_law_of", "_law_shuffled", "_law_numbers", "_law_images", "_law_cells", "_law_lines", "_law_wide"]
def loose : List Str := loose0 ++ loose1
def ex1 (K : PySem.W.Frag) : Bool := exs1.all fun f => f K
def ex2 (K : PySem.W.Frag) : Bool := exs2.all fun f => f K
def ob1 (s : PySem.W.SharedT) : He.AlX := Hz.obsZ asl facl1 fns1 [] [] ex1 (HandSHeadRun.getT s)
def ob2 (s : PySem.W.SharedT) : He.AlX := Hz.obsZ asl facl2 fns2 [] tfd ex2 (HandSHeadRun.getT s)
set_option maxHeartbeats 0 in
theorem run1 (w : World) (os : OsState) : (HandSHeadRun.endF (HandSHeadRun.stepQ (HandSHeadRun.denQ HandSHeadRun.tabQ) R.prog w) 20000 R.prog w os).map (fun s => HandSHeadRun.looksF R.prog (PySem.W.boot_heap w.params) s.abs) = some true := by
  kernel_rfl
set_option maxHeartbeats 0 in
theorem run2 (w : World) (os : OsState) : (HandSHeadRun.endF (HandSHeadRun.stepQ (HandSHeadRun.denQ HandSHeadRun.tabQ) R.prog w) 20000 R.prog w os).map (fun s => HandSHeadRun.seenQ (PySem.W.view R.prog [58]) loose (importedModules R.prog.main.body) (fun s => PySem.W.xlAt (PySem.W.view R.prog [58]) [] s && PySem.W.recOk R.toRowW.records s) s.abs) = some (PySem.W.openGood (PySem.W.view R.prog [58]) loose) := by
  kernel_rfl
set_option maxHeartbeats 0 in
theorem run3 (w : World) (os : OsState) : (HandSHeadRun.endF (HandSHeadRun.stepQ (HandSHeadRun.denQ HandSHeadRun.tabQ) R.prog w) 20000 R.prog w os).map ob1 = some (He.valX fns1 [] w) := by
  kernel_rfl
set_option maxHeartbeats 0 in
theorem run4 (w : World) (os : OsState) : (HandSHeadRun.endF (HandSHeadRun.stepQ (HandSHeadRun.denQ HandSHeadRun.tabQ) R.prog w) 20000 R.prog w os).map ob2 = some (He.valX fns2 [] w) := by
  kernel_rfl
theorem run (w : World) : HandSHeadRun.RunEq R (PySem.W.view R.prog [58]) hk ob 20000 loose w := Hz.runEq_four (run1 w) (run2 w) (run3 w) (run4 w) fun s a b => Hz.obsZ_two (fun K => by
  show (exs1 ++ exs2).all _ = _
  rw [List.all_append]
  rfl) a b
end K68
namespace Mm
open PySem L2
inductive D where
  | non | bl (b : Bool) | int (i : Int) | str (x : Str)
  | lst (xs : List D) | tup (xs : List D) | ins (c : Str) (fs : List (Str × D)) | ref (n : Nat) | scr (ns : List Int) | ty (n : String) | cls (c : Str)
  | adr (a : Addr) | set (xs : List Int) | dic (ks : List (Key × D)) | tdc (ks : List (List Key × Int)) | tds (ks : List (List Int)) | any | dno (ks : List (Option Int × Int × List Int))
inductive Cell where
  | lst (xs : List D) | ins (c : Str) (fs : List (Str × D)) | dic (ks : List (Key × D)) | tdc (ks : List (List Key × Int)) | lck (ks : List (Key × D)) | mem (ks : List ((List Int × List Int) × Int)) | lkl (ds : List D)
def tsV (ks : List (List Int)) : List (List Key × V) := ks.map fun k => (k.map Sum.inl, .bl true)
def tdV (ks : List (List Key × Int)) : List (List Key × V) := ks.map fun kv => (kv.1, .int kv.2)
def Cell.d : Cell → D
  | .lst xs => .lst xs
  | .ins c fs => .ins c fs
  | .dic ks => .dic ks
  | .tdc ks => .tdc ks
  | .lck ks => .dic ks
  | .mem _ => .any
  | .lkl _ => .any
inductive Sl where
  | no | v (d : D) | o (c : Cell)
abbrev Sto := List Cell
abbrev Envr := List Sl
inductive R (α : Type) where
  | stuck | exc (c : Str) (p : Option D) (s : Sto) | ok (a : α) (s : Sto)
inductive Ret where
  | val (d : D) | own (c : Cell)
def Ret.d : Ret → D
  | .val d => d
  | .own c => c.d
inductive Out where
  | stuck | nx (e : Envr) (s : Sto) | rt (r : Ret) (s : Sto) | bk (e : Envr) (s : Sto) | ct (e : Envr) (s : Sto) | exc (c : Str) (p : Option D) (e : Envr) (s : Sto)
structure Gam where
  K : PySem.W.Frag
  ca : Str → Addr
  T : List (Addr × Str)
structure Wd where
  rho : List Addr
  G : Hp
def TupR (K : PySem.W.Frag) (H : Hp) (a : Addr) (vs : List V) : Prop := (H a = some (.tup vs) ∨ False) ∨ (SqT K H a vs ∧ ∃ x r, vs = V.str x :: r)
theorem TupR.sq {K : PySem.W.Frag} {H : Hp} {a : Addr} {vs : List V} (h : TupR K H a vs) : SqT K H a vs := by
  rcases h with (h | h) | h
  · exact .inl (.inl h)
  · exact h.elim
  · exact h.1
def lfO : Option Int → Leaf
  | none => .none
  | some i => .num i
def lfK (ks : List (Option Int × Int × List Int)) (ts : List Addr) : List (Leaf × Value) := List.zipWith (fun k t => (lfO k.1, Value.ref t)) ks ts
structure DnoAt (G : Hp) (a : Addr) (ks : List (Option Int × Int × List Int)) : Prop where
  ex : ∃ (o : Obj) (ts : List Addr), G a = some (.ext fun h => h.get? a = some o) ∧ (a == sysModules) = false ∧ (∀ (P : Program) (w : World), o.IsDictOf (leafKind P w) (lfK ks ts)) ∧ ts.length = ks.length ∧
    ∀ (i : Nat) (k : Option Int × Int × List Int) (t : Addr), ks[i]? = some k → ts[i]? = some t → ∃ l, G t = some (.tup [.int k.2.1, .ref l]) ∧ G l = some (.lst (k.2.2.map V.int))
theorem DnoAt.same {G G' : Hp} {a : Addr} {ks : List (Option Int × Int × List Int)} (e : Same G G') (h : DnoAt G a ks) : DnoAt G' a ks := by
  obtain ⟨o, ts, h1, h2, h3, h4, h5⟩ := h.ex
  refine ⟨o, ts, e _ _ h1, h2, h3, h4, fun i k t hk ht => ?_⟩
  obtain ⟨l, q1, q2⟩ := h5 i k t hk ht
  exact ⟨l, e _ _ q1, e _ _ q2⟩
mutual
def Rep (g : Gam) (w : Wd) : D → V → Prop
  | .non, v => v = .non
  | .bl b, v => v = .bl b
  | .int i, v => v = .int i
  | .str x, v => v = .str x
  | .lst ds, v => ∃ a vs, v = .ref a ∧ w.G a = some (.lst vs) ∧ RepL g w ds vs
  | .tup ds, v => ∃ a vs, v = .ref a ∧ TupR g.K w.G a vs ∧ RepL g w ds vs
  | .ins c fs, v => ∃ a dx gs, v = .ref a ∧ w.G a = some (.ins (g.ca c) dx gs) ∧ RepF g w fs gs
  | .ref n, v => ∃ a, w.rho[n]? = some a ∧ v = .ref a
  | .scr ns, v => ∃ a, v = .ref a ∧ SqL g.K w.G a (ns.map V.int)
  | .ty n, v => v = .ty n
  | .cls c, v => v = .ref (g.ca c)
  | .adr a, v => v = .ref a
  | .set xs, v => ∃ a S, v = .ref a ∧ w.G a = some (.set S xs.length) ∧ xs.Nodup ∧ ∀ i, S i = decide (i ∈ xs)
  | .dic ks, v => ∃ a vs, v = .ref a ∧ Rd w.G a (.dK vs) ∧ RepK g w ks vs
  | .tdc ks, v => ∃ a, v = .ref a ∧ w.G a = some (.dT (tdV ks))
  | .tds ks, v => ∃ a, v = .ref a ∧ w.G a = some (.dT (tsV ks))
  | .any, v => ∃ a, v = .ref a
  | .dno ks, v => ∃ a, v = .ref a ∧ DnoAt w.G a ks
def RepL (g : Gam) (w : Wd) : List D → List V → Prop
  | [], vs => vs = []
  | d :: ds, vs => ∃ v r, vs = v :: r ∧ Rep g w d v ∧ RepL g w ds r
def RepF (g : Gam) (w : Wd) : List (Str × D) → List (Str × V) → Prop
  | [], gs => gs = []
  | (f, d) :: fs, gs => ∃ v r, gs = (f, v) :: r ∧ Rep g w d v ∧ RepF g w fs r
def RepK (g : Gam) (w : Wd) : List (Key × D) → List (Key × V) → Prop
  | [], gs => gs = []
  | (f, d) :: fs, gs => ∃ v r, gs = (f, v) :: r ∧ Rep g w d v ∧ RepK g w fs r
end
structure Wd.le (w w' : Wd) : Prop where
  pre : ∃ t, w'.rho = w.rho ++ t
  ex : Same w.G w'.G
theorem Wd.le.refl (w : Wd) : w.le w := ⟨⟨[], by simp⟩, Same.refl _⟩
theorem Wd.le.trans {a b c : Wd} (x : a.le b) (y : b.le c) : a.le c := by
  obtain ⟨t, e⟩ := x.pre
  obtain ⟨u, e'⟩ := y.pre
  exact ⟨⟨t ++ u, by rw [e', e, List.append_assoc]⟩, x.ex.trans y.ex⟩
theorem Wd.le.get {a b : Wd} (x : a.le b) {n : Nat} {p : Addr} (h : a.rho[n]? = some p) : b.rho[n]? = some p := by
  obtain ⟨t, e⟩ := x.pre
  rw [e, List.getElem?_append_left (List.getElem?_eq_some_iff.mp h).1]
  exact h
theorem same_rd {H H' : Hp} {a : Addr} {u : HO} (e : Same H H') (h : Rd H a u) : Rd H' a u := by
  rcases h with h | ⟨o, h⟩
  · exact .inl (e _ _ h)
  · exact .inr ⟨o, e _ _ h⟩
theorem same_sqT {K : PySem.W.Frag} {H H' : Hp} {a : Addr} {xs : List V} (e : Same H H') (h : SqT K H a xs) : SqT K H' a xs := by
  rcases h with (h | ⟨o, h⟩) | h
  · exact .inl (.inl (e _ _ h))
  · exact .inl (.inr ⟨o, e _ _ h⟩)
  · exact .inr h
theorem TupR.same {K : PySem.W.Frag} {H H' : Hp} {a : Addr} {xs : List V} (e : Same H H') (h : TupR K H a xs) : TupR K H' a xs := by
  rcases h with (h | h) | h
  · exact .inl (.inl (e _ _ h))
  · exact h.elim
  · exact .inr ⟨same_sqT e h.1, h.2⟩
mutual
theorem Rep.mono {g : Gam} {w w' : Wd} (l : w.le w') : ∀ {d : D} {v : V}, Rep g w d v → Rep g w' d v
  | .non, _, h => h
  | .bl _, _, h => h
  | .int _, _, h => h
  | .str _, _, h => h
  | .lst ds, v, h => by
    unfold Rep at h ⊢
    obtain ⟨a, vs, e, q, r⟩ := h
    exact ⟨a, vs, e, l.ex _ _ q, RepL.mono l r⟩
  | .tup ds, v, h => by
    unfold Rep at h ⊢
    obtain ⟨a, vs, e, q, r⟩ := h
    exact ⟨a, vs, e, q.same l.ex, RepL.mono l r⟩
  | .ins c fs, v, h => by
    unfold Rep at h ⊢
    obtain ⟨a, dx, gs, e, q, r⟩ := h
    exact ⟨a, dx, gs, e, l.ex _ _ q, RepF.mono l r⟩
  | .ref n, v, h => by
    unfold Rep at h ⊢
    obtain ⟨a, e, q⟩ := h
    exact ⟨a, l.get e, q⟩
  | .scr ns, v, h => by
    unfold Rep at h ⊢
    obtain ⟨a, e, q⟩ := h
    exact ⟨a, e, l.ex.seq q⟩
  | .ty _, _, h => h
  | .cls _, _, h => h
  | .adr _, _, h => h
  | .set xs, v, h => by
    unfold Rep at h ⊢
    obtain ⟨a, q, e, r, s⟩ := h
    exact ⟨a, q, e, l.ex _ _ r, s⟩
  | .dic ds, v, h => by
    unfold Rep at h ⊢
    obtain ⟨a, vs, e, q, r⟩ := h
    exact ⟨a, vs, e, same_rd l.ex q, RepK.mono l r⟩
  | .tdc ks, v, h => by
    unfold Rep at h ⊢
    obtain ⟨a, e, q⟩ := h
    exact ⟨a, e, l.ex _ _ q⟩
  | .tds ks, v, h => by
    unfold Rep at h ⊢
    obtain ⟨a, e, q⟩ := h
    exact ⟨a, e, l.ex _ _ q⟩
  | .any, v, h => by
    unfold Rep at h ⊢
    exact h
  | .dno ks, v, h => by
    unfold Rep at h ⊢
    obtain ⟨a, e, q⟩ := h
    exact ⟨a, e, q.same l.ex⟩
theorem RepL.mono {g : Gam} {w w' : Wd} (l : w.le w') : ∀ {ds : List D} {vs : List V}, RepL g w ds vs → RepL g w' ds vs
  | [], _, h => h
  | d :: ds, vs, h => by
    unfold RepL at h ⊢
    obtain ⟨v, r, e, a, b⟩ := h
    exact ⟨v, r, e, Rep.mono l a, RepL.mono l b⟩
theorem RepF.mono {g : Gam} {w w' : Wd} (l : w.le w') : ∀ {ds : List (Str × D)} {vs : List (Str × V)}, RepF g w ds vs → RepF g w' ds vs
  | [], _, h => h
  | (f, d) :: ds, vs, h => by
    unfold RepF at h ⊢
    obtain ⟨v, r, e, a, b⟩ := h
    exact ⟨v, r, e, Rep.mono l a, RepF.mono l b⟩
theorem RepK.mono {g : Gam} {w w' : Wd} (l : w.le w') : ∀ {ds : List (Key × D)} {vs : List (Key × V)}, RepK g w ds vs → RepK g w' ds vs
  | [], _, h => h
  | (f, d) :: ds, vs, h => by
    unfold RepK at h ⊢
    obtain ⟨v, r, e, a, b⟩ := h
    exact ⟨v, r, e, Rep.mono l a, RepK.mono l b⟩
end
theorem RepL.nil_ {g : Gam} {w : Wd} : RepL g w [] [] := by unfold RepL; rfl
theorem RepL.cons_ {g : Gam} {w : Wd} {d : D} {ds : List D} {v : V} {vs : List V} (a : Rep g w d v) (b : RepL g w ds vs) : RepL g w (d :: ds) (v :: vs) := by
  unfold RepL
  exact ⟨v, vs, rfl, a, b⟩
theorem RepL.len {g : Gam} {w : Wd} : ∀ {ds : List D} {vs : List V}, RepL g w ds vs → ds.length = vs.length
  | [], vs, h => by
    unfold RepL at h
    rw [h]
    rfl
  | d :: ds, vs, h => by
    unfold RepL at h
    obtain ⟨v, r, e, a, b⟩ := h
    rw [e, List.length_cons, List.length_cons, RepL.len b]
theorem RepL.append_ {g : Gam} {w : Wd} : ∀ {ds es : List D} {vs us : List V}, RepL g w ds vs → RepL g w es us → RepL g w (ds ++ es) (vs ++ us)
  | [], es, vs, us, h, k => by
    unfold RepL at h
    rw [h]
    exact k
  | d :: ds, es, vs, us, h, k => by
    unfold RepL at h
    obtain ⟨v, r, e, a, b⟩ := h
    rw [e]
    exact RepL.cons_ a (RepL.append_ b k)
theorem RepL.at_ {g : Gam} {w : Wd} : ∀ {ds : List D} {vs : List V} {i : Nat} {d : D}, RepL g w ds vs → ds[i]? = some d → ∃ v, vs[i]? = some v ∧ Rep g w d v
  | [], _, _, _, _, e => by simp at e
  | d :: ds, vs, 0, d', h, e => by
    unfold RepL at h
    obtain ⟨v, r, e1, a, b⟩ := h
    have e2 : d = d' := by simpa using e
    rw [e1, ← e2]
    exact ⟨v, rfl, a⟩
  | d :: ds, vs, i + 1, d', h, e => by
    unfold RepL at h
    obtain ⟨v, r, e1, a, b⟩ := h
    rw [e1]
    exact RepL.at_ (i := i) b (by simpa using e)
theorem RepL.drop_ {g : Gam} {w : Wd} : ∀ {ds : List D} {vs : List V} (n : Nat), RepL g w ds vs → RepL g w (ds.drop n) (vs.drop n)
  | _, _, 0, h => h
  | [], vs, n + 1, h => by
    unfold RepL at h
    rw [h]
    exact RepL.nil_
  | d :: ds, vs, n + 1, h => by
    unfold RepL at h
    obtain ⟨v, r, e, a, b⟩ := h
    rw [e]
    exact RepL.drop_ n b
theorem RepL.take_ {g : Gam} {w : Wd} : ∀ {ds : List D} {vs : List V} (n : Nat), RepL g w ds vs → RepL g w (ds.take n) (vs.take n)
  | _, _, 0, h => RepL.nil_
  | [], vs, n + 1, h => by
    unfold RepL at h
    rw [h]
    exact RepL.nil_
  | d :: ds, vs, n + 1, h => by
    unfold RepL at h
    obtain ⟨v, r, e, a, b⟩ := h
    rw [e]
    exact RepL.cons_ a (RepL.take_ n b)
theorem RepL.set_ {g : Gam} {w : Wd} {d : D} {v : V} (q : Rep g w d v) : ∀ {ds : List D} {vs : List V} (n : Nat), RepL g w ds vs → RepL g w (ds.set n d) (vs.set n v)
  | [], vs, n, h => by
    unfold RepL at h
    rw [h]
    exact RepL.nil_
  | e :: ds, vs, 0, h => by
    unfold RepL at h
    obtain ⟨u, r, e1, a, b⟩ := h
    rw [e1]
    exact RepL.cons_ q b
  | e :: ds, vs, n + 1, h => by
    unfold RepL at h
    obtain ⟨u, r, e1, a, b⟩ := h
    rw [e1]
    exact RepL.cons_ a (RepL.set_ q n b)
theorem RepL.ints {g : Gam} {w : Wd} : ∀ (ns : List Int), RepL g w (ns.map D.int) (ns.map V.int)
  | [] => RepL.nil_
  | n :: ns => RepL.cons_ (by unfold Rep; rfl) (RepL.ints ns)
def nKey (A B : List Int) : NestedKey := .tup [.tup (A.map .num), .tup (B.map .num)]
def MemX (g : Gam) (w : Wd) : List ((List Int × List Int) × Int) → List (NestedKey × Addr × Value) → Prop
  | [], xs => xs = []
  | ((A, B), z) :: ks, xs => ∃ t tok r, (xs = (nKey A B, t, .int z tok) :: r ∧ ∀ kz ∈ ks, kz.1 ≠ (A, B)) ∧ Rep g w (.tup [.tup (A.map .int), .tup (B.map .int)]) (.ref t) ∧ MemX g w ks r
theorem MemX.mono {g : Gam} {w w' : Wd} (l : w.le w') : ∀ {ks : List ((List Int × List Int) × Int)} {xs : List (NestedKey × Addr × Value)}, MemX g w ks xs → MemX g w' ks xs
  | [], _, h => h
  | ((A, B), z) :: ks, xs, h => by
    obtain ⟨t, tok, r, e, q, m⟩ := h
    exact ⟨t, tok, r, e, q.mono l, m.mono l⟩
def NoMem (φ : Heap → Prop) : Prop := ∀ (a : Addr) (o : Obj) (es : Array DictEntry) (ep : Nat), o.data = .dict es ep → φ ≠ fun h => h.get? a = some o
theorem noMem_of {φ : Heap → Prop} (h : ∀ hp, φ hp → ∃ b oc, hp.get? b = some oc ∧ ∀ es ep, oc.data ≠ .dict es ep) : NoMem φ := fun a o es ep hd e => by
  have gt : ∀ (b : Addr) (oc : Obj), (Heap.mk (Array.replicate (a + 1) o) {}).get? b = some oc → oc = o := fun b oc q => by
    unfold Heap.get? at q
    have at_ : ∀ x, (Array.replicate (a + 1) o)[b]? = some x → x = o := fun x hx => by
      obtain ⟨i, rfl⟩ := Array.getElem?_eq_some_iff.mp hx
      simp
    split at q
    · cases q
    · exact at_ _ q
  have ga : (Heap.mk (Array.replicate (a + 1) o) {}).get? a = some o := by
    have q : (Array.replicate (a + 1) o)[a]? = some o := by simp
    unfold Heap.get?
    split
    · rename_i c d s hx
      have hx : (Array.replicate (a + 1) o)[a]? = some _ := hx
      rw [q] at hx
      cases hx
      cases hd
    · exact q
  obtain ⟨b, oc, q1, q2⟩ := h (Heap.mk (Array.replicate (a + 1) o) {}) (by rw [e]; exact ga)
  have := gt b oc q1
  subst this
  exact q2 es ep hd
theorem noMem_code (c : Addr) (q : Str) {φ : Heap → Prop} (e : LamX.CodeO c q = .ext φ) : NoMem φ := by
  cases e
  refine noMem_of fun hp h => ?_
  obtain ⟨oc, vs, t, h1, h2, _⟩ := h
  exact ⟨c, oc, h1, fun es ep z => by rw [h2] at z; cases z⟩
def CellR (g : Gam) (w : Wd) (H : Hp) (a : Addr) : Cell → Prop
  | .mem ks => ∃ o es ep xs, H a = some (.ext fun h => h.get? a = some o) ∧ o.ExactDict ∧ o.data = .dict es ep ∧ (a == sysModules) = false ∧ (∀ (P : Program) (w' : World), es.toList = xs.map (entryOfKey (nestedKind P w'))) ∧ MemX g w ks xs
  | .lst ds => ∃ vs, H a = some (.lst vs) ∧ RepL g w ds vs
  | .ins c fs => ∃ dx gs, H a = some (.ins (g.ca c) dx gs) ∧ RepF g w fs gs
  | .dic ks => ∃ gs, H a = some (.dK gs) ∧ RepK g w ks gs
  | .tdc ks => H a = some (.dT (tdV ks))
  | .lck ks => ∃ o gs, H a = some (.frz o (.dK gs)) ∧ RepK g w ks gs
  | .lkl ds => ∃ o vs, H a = some (.frz o (.lst vs)) ∧ RepL g w ds vs
theorem CellR.some_ {g : Gam} {w : Wd} {H : Hp} {a : Addr} {c : Cell} (h : CellR g w H a c) : ∃ o, H a = some o ∧ ∀ ps, o ≠ .tbl ps := by
  cases c with
  | lst ds =>
    obtain ⟨vs, e, _⟩ := h
    exact ⟨_, e, fun ps z => by cases z⟩
  | ins c fs =>
    obtain ⟨dx, gs, e, _⟩ := h
    exact ⟨_, e, fun ps z => by cases z⟩
  | dic ks =>
    obtain ⟨gs, e, _⟩ := h
    exact ⟨_, e, fun ps z => by cases z⟩
  | tdc ks => exact ⟨_, h, fun ps z => by cases z⟩
  | lck ks =>
    obtain ⟨o, gs, e, _⟩ := h
    exact ⟨_, e, fun ps z => by cases z⟩
  | mem ks =>
    obtain ⟨o, es, ep, xs, e, _⟩ := h
    exact ⟨_, e, fun ps z => by cases z⟩
  | lkl ds =>
    obtain ⟨o, gs, e, _⟩ := h
    exact ⟨_, e, fun ps z => by cases z⟩
def Cell.fr : Cell → Prop
  | .lck _ => False
  | .lkl _ => False
  | _ => True
theorem CellR.nofrz {g : Gam} {w : Wd} {H : Hp} {a : Addr} {c : Cell} (h : CellR g w H a c) (hc : c.fr) (o : Obj) (u : HO) : H a ≠ some (.frz o u) := fun z => by
  cases c with
  | lst ds =>
    obtain ⟨vs, e, _⟩ := h
    rw [e] at z
    cases z
  | ins c fs =>
    obtain ⟨dx, gs, e, _⟩ := h
    rw [e] at z
    cases z
  | dic ks =>
    obtain ⟨gs, e, _⟩ := h
    rw [e] at z
    cases z
  | tdc ks =>
    have h : H a = some (.dT (tdV ks)) := h
    rw [h] at z
    cases z
  | lck ks => exact hc
  | lkl ks => exact hc
  | mem ks =>
    obtain ⟨o, es, ep, xs, e, _⟩ := h
    rw [e] at z
    cases z
theorem CellR.noext {g : Gam} {w : Wd} {H : Hp} {a : Addr} {c : Cell} (h : CellR g w H a c) (φ : Heap → Prop) (nm : NoMem φ) : H a ≠ some (.ext φ) := fun z => by
  cases c with
  | lst ds =>
    obtain ⟨vs, e, _⟩ := h
    rw [e] at z
    cases z
  | ins c fs =>
    obtain ⟨dx, gs, e, _⟩ := h
    rw [e] at z
    cases z
  | dic ks =>
    obtain ⟨gs, e, _⟩ := h
    rw [e] at z
    cases z
  | tdc ks =>
    have h : H a = some (.dT (tdV ks)) := h
    rw [h] at z
    cases z
  | lck ks =>
    obtain ⟨o, gs, e, _⟩ := h
    rw [e] at z
    cases z
  | mem ks =>
    obtain ⟨o, es, ep, xs, e, _, hd, _⟩ := h
    rw [e] at z
    cases z
    exact nm a o es ep hd rfl
  | lkl ds =>
    obtain ⟨o, gs, e, _⟩ := h
    rw [e] at z
    cases z
theorem tabs_upd {T : List (Addr × Str)} {H : Hp} {p : Addr} {o : HO} (t : LamX.Tabs T H) (h1 : ∀ ps, H p ≠ some (.tbl ps)) (h2 : ∀ φ, NoMem φ → H p ≠ some (.ext φ)) : LamX.Tabs T (upd H p o) := fun x hx => by
  obtain ⟨ps, a, b, c⟩ := t x hx
  refine ⟨ps, by rw [upd_ne (fun z => h1 ps (by rw [← z]; exact a))]; exact a, b, fun pos cv e => ?_⟩
  obtain ⟨c0, e1, e2⟩ := c pos cv e
  exact ⟨c0, e1, by rw [upd_ne (fun z => h2 _ (noMem_code _ _ rfl) (by rw [← z]; exact e2))]; exact e2⟩
theorem CellR.move {g : Gam} {w w' : Wd} {H H' : Hp} {a : Addr} {c : Cell} (h : CellR g w H a c) (l : w.le w') (e : H' a = H a) : CellR g w' H' a c := by
  cases c with
  | lst ds =>
    obtain ⟨vs, e1, r⟩ := h
    exact ⟨vs, e.trans e1, r.mono l⟩
  | ins c fs =>
    obtain ⟨dx, gs, e1, r⟩ := h
    exact ⟨dx, gs, e.trans e1, r.mono l⟩
  | dic ks =>
    obtain ⟨gs, e1, r⟩ := h
    exact ⟨gs, e.trans e1, r.mono l⟩
  | tdc ks => exact e.trans h
  | lck ks =>
    obtain ⟨o, gs, e1, r⟩ := h
    exact ⟨o, gs, e.trans e1, r.mono l⟩
  | mem ks =>
    obtain ⟨o, es, ep, xs, e1, h1, h2, h3, h4, h5⟩ := h
    exact ⟨o, es, ep, xs, e.trans e1, h1, h2, h3, h4, h5.mono l⟩
  | lkl ds =>
    obtain ⟨o, gs, e1, r⟩ := h
    exact ⟨o, gs, e.trans e1, r.mono l⟩
structure CellsR (g : Gam) (w : Wd) (H : Hp) (S : Sto) : Prop where
  nd : ∀ (i j : Nat) (a : Addr), w.rho[i]? = some a → w.rho[j]? = some a → i = j
  len : w.rho.length = S.length
  at_ : ∀ (n : Nat) (a : Addr) (c : Cell), w.rho[n]? = some a → S[n]? = some c → w.G a = none ∧ CellR g w H a c
theorem CellsR.in_ {g : Gam} {w : Wd} {H : Hp} {S : Sto} (h : CellsR g w H S) {a : Addr} (m : a ∈ w.rho) : w.G a = none ∧ ∃ o, H a = some o := by
  obtain ⟨n, hn⟩ := List.getElem?_of_mem m
  have l : n < S.length := by
    rw [← h.len]
    exact (List.getElem?_eq_some_iff.mp hn).1
  obtain ⟨h1, h2⟩ := h.at_ n a S[n] hn (List.getElem?_eq_getElem l)
  obtain ⟨o, e, _⟩ := h2.some_
  exact ⟨h1, o, e⟩
structure Ok (g : Gam) (w : Wd) (H : Hp) (S : Sto) : Prop where
  ex : Same w.G H
  cells : CellsR g w H S
  tabs : LamX.Tabs g.T H
  notab : ∀ a ps, w.G a ≠ some (.tbl ps)
structure Frame (w0 : Wd) (H0 : Hp) (w : Wd) (H : Hp) : Prop where
  le : w0.le w
  keep : ∀ a o, H0 a = some o → a ∉ w0.rho → (∀ ps, o ≠ .tbl ps) → H a = some o
  newG : ∀ a, H0 a ≠ none → w.G a = w0.G a
  rho : ∀ a ∈ w.rho, a ∈ w0.rho ∨ H0 a = none
  dom : ∀ a, H0 a ≠ none → H a ≠ none
  tb : ∀ a ps, H0 a = some (.tbl ps) → ∃ qs, H a = some (.tbl qs)
  fz : ∀ a o u, H0 a = some (.frz o u) → H a = some (.frz o u)
theorem Frame.refl (w : Wd) (H : Hp) : Frame w H w H := ⟨.refl w, fun _ _ h _ _ => h, fun _ _ => rfl, fun _ h => .inl h, fun _ h => h, fun _ ps h => ⟨ps, h⟩, fun _ _ _ h => h⟩
theorem Frame.trans {w0 w1 w2 : Wd} {H0 H1 H2 : Hp} (a : Frame w0 H0 w1 H1) (b : Frame w1 H1 w2 H2) : Frame w0 H0 w2 H2 where
  le := a.le.trans b.le
  keep := fun p o h n t => b.keep p o (a.keep p o h n t) (fun z => by
    rcases a.rho p z with z | z
    · exact n z
    · rw [z] at h
      cases h) t
  newG := fun p h => (b.newG p (a.dom p h)).trans (a.newG p h)
  rho := fun p h => by
    rcases b.rho p h with z | z
    · exact a.rho p z
    · refine .inr ?_
      cases e : H0 p with
      | none => rfl
      | some o => exact absurd z (a.dom p (by rw [e]; exact fun q => nomatch q))
  dom := fun p h => b.dom p (a.dom p h)
  tb := fun p ps h => let ⟨qs, e⟩ := a.tb p ps h; b.tb p qs e
  fz := fun p o u h => b.fz p o u (a.fz p o u h)
def SlotR (g : Gam) (w : Wd) (H : Hp) : Sl → Option V → Option Addr → Prop
  | .no, _, o => o = none
  | .v d, x, o => o = none ∧ ∃ v, x = some v ∧ Rep g w d v
  | .o c, x, o => ∃ p, o = some p ∧ x = some (.ref p) ∧ w.G p = none ∧ CellR g w H p c
structure StR (g : Gam) (w0 : Wd) (H0 : Hp) (w : Wd) (H : Hp) (σ : L2.St) (env : Envr) (S : Sto) (O : List (Option Addr)) : Prop where
  ok : Ok g w H S
  fr : Frame w0 H0 w H
  l1 : env.length = σ.length
  l2 : O.length = σ.length
  sl : ∀ (i : Nat) (s : Sl) (x : Option V) (o : Option Addr), env[i]? = some s → σ[i]? = some x → O[i]? = some o → SlotR g w H s x o
  inj : ∀ (i j : Nat) (p : Addr), O[i]? = some (some p) → O[j]? = some (some p) → i = j
  fresh : ∀ (i : Nat) (p : Addr), O[i]? = some (some p) → H0 p = none ∧ p ∉ w.rho ∧ ∃ c, env[i]? = some (.o c)
section
variable {g : Gam} {w0 w w' : Wd} {H0 H H' : Hp} {σ : L2.St} {env : Envr} {S S' : Sto} {O : List (Option Addr)}
theorem StR.after (h : StR g w0 H0 w H σ env S O) (f : Frame w H w' H') (k : Ok g w' H' S') : StR g w0 H0 w' H' σ env S' O := by
  have own : ∀ (i : Nat) (p : Addr), O[i]? = some (some p) → ∃ o, H p = some o ∧ (∀ ps, o ≠ .tbl ps) := fun i p e => by
    obtain ⟨_, _, c, hc⟩ := h.fresh i p e
    have hi : i < σ.length := by
      rw [← h.l2]
      exact (List.getElem?_eq_some_iff.mp e).1
    have q := h.sl i (.o c) σ[i] (some p) hc (List.getElem?_eq_getElem hi) e
    obtain ⟨p', e1, e2, e3, e4⟩ := q
    cases e1
    exact e4.some_
  refine ⟨k, h.fr.trans f, h.l1, h.l2, fun i s x o e1 e2 e3 => ?_, h.inj, fun i p e => ?_⟩
  · have q := h.sl i s x o e1 e2 e3
    cases s with
    | no => exact q
    | v d =>
      obtain ⟨q1, v, q2, q3⟩ := q
      exact ⟨q1, v, q2, q3.mono f.le⟩
    | o c =>
      obtain ⟨p, q1, q2, q3, q4⟩ := q
      obtain ⟨ob, z1, z2⟩ := q4.some_
      rw [q1] at e3
      refine ⟨p, q1, q2, (f.newG p (by rw [z1]; exact fun q => nomatch q)).trans q3, q4.move f.le ?_⟩
      rw [f.keep p ob z1 (h.fresh i p e3).2.1 z2, z1]
  · obtain ⟨z1, z2, z3⟩ := h.fresh i p e
    refine ⟨z1, fun m => ?_, z3⟩
    obtain ⟨ob, z4, _⟩ := own i p e
    rcases f.rho p m with z | z
    · exact z2 z
    · rw [z4] at z
      cases z
end
inductive Grow (w : Wd) (H : Hp) : Wd → Hp → Prop
  | refl : Grow w H w H
  | new {w1 : Wd} {H1 : Hp} {p : Addr} {o : HO} : Grow w H w1 H1 → H1 p = none → (∀ ps, o ≠ .tbl ps) → Grow w H ⟨w1.rho, upd w1.G p o⟩ (upd H1 p o)
theorem Grow.one {w : Wd} {H : Hp} {p : Addr} {o : HO} (h : H p = none) (n : ∀ ps, o ≠ .tbl ps) : Grow w H ⟨w.rho, upd w.G p o⟩ (upd H p o) := .new .refl h n
theorem same_upd {H : Hp} {p : Addr} {o : HO} (h : H p = none) : Same H (upd H p o) := fun b x e => by
  rw [upd_ne (ne_of_none e h)]
  exact e
theorem same_upd2 {G H : Hp} {p : Addr} {o : HO} (h : Same G H) : Same (upd G p o) (upd H p o) := fun b x e => by
  by_cases hb : b = p
  · rw [hb, upd_same] at e ⊢
    exact e
  · rw [upd_ne hb] at e ⊢
    exact h b x e
theorem none_of_same {G H : Hp} {p : Addr} (h : Same G H) (e : H p = none) : G p = none := h.free e
theorem ok_new {g : Gam} {w : Wd} {H : Hp} {S : Sto} {p : Addr} {o : HO} (k : Ok g w H S) (h : H p = none) (n : ∀ ps, o ≠ .tbl ps) : Ok g ⟨w.rho, upd w.G p o⟩ (upd H p o) S ∧ Frame w H ⟨w.rho, upd w.G p o⟩ (upd H p o) := by
  have hG : w.G p = none := none_of_same k.ex h
  have le : w.le ⟨w.rho, upd w.G p o⟩ := ⟨⟨[], by simp⟩, same_upd hG⟩
  refine ⟨⟨same_upd2 k.ex, ⟨k.cells.nd, k.cells.len, fun m a c e1 e2 => ?_⟩, k.tabs.ext (same_upd h), fun a ps e => ?_⟩, ⟨le, fun a x e _ _ => same_upd h a x e, fun a e => ?_, fun a m => .inl m, fun a e => ?_, fun a ps e => ⟨ps, same_upd h a _ e⟩, fun a x u e => same_upd h a _ e⟩⟩
  · obtain ⟨q1, q2⟩ := k.cells.at_ m a c e1 e2
    obtain ⟨x, q3, _⟩ := q2.some_
    have ne : a ≠ p := ne_of_none q3 h
    exact ⟨(upd_ne ne).trans q1, q2.move le (upd_ne ne)⟩
  · by_cases ha : a = p
    · rw [ha] at e
      have e2 : upd w.G p o p = some (.tbl ps) := e
      rw [upd_same] at e2
      exact n ps (Option.some.inj e2)
    · have e2 : upd w.G p o a = some (.tbl ps) := e
      rw [upd_ne ha] at e2
      exact k.notab a ps e2
  · have ne : a ≠ p := fun z => e (by rw [z]; exact h)
    exact upd_ne ne
  · have ne : a ≠ p := fun z => e (by rw [z]; exact h)
    rw [upd_ne ne]
    exact e
theorem Grow.ok {g : Gam} {w w' : Wd} {H H' : Hp} {S : Sto} (q : Grow w H w' H') (k : Ok g w H S) : Ok g w' H' S ∧ Frame w H w' H' := by
  induction q with
  | refl => exact ⟨k, Frame.refl w H⟩
  | new q hp hn ih =>
    obtain ⟨k1, f1⟩ := ih
    obtain ⟨k2, f2⟩ := ok_new k1 hp hn
    exact ⟨k2, f1.trans f2⟩
theorem StR.grow {g : Gam} {w0 w w' : Wd} {H0 H H' : Hp} {σ : L2.St} {env : Envr} {S : Sto} {O : List (Option Addr)} (h : StR g w0 H0 w H σ env S O) (q : Grow w H w' H') : StR g w0 H0 w' H' σ env S O :=
  let ⟨k, f⟩ := q.ok h.ok
  h.after f k
theorem Grow.le {g : Gam} {w w' : Wd} {H H' : Hp} {S : Sto} (q : Grow w H w' H') (k : Ok g w H S) : w.le w' := (q.ok k).2.le
def fldOf (c : Str) : Str := if c = "BadText" then "at" else "name"
def ExcR (g : Gam) (w : Wd) (H : Hp) (c : Str) (p : Option D) (cls : Value) (dd : Option Addr) : Prop :=
  cls = .ref (g.ca c) ∧ match p with
    | none => dd = none
    | some d => ∃ a v, dd = some a ∧ H a = some (.xd [(fldOf c, v)]) ∧ Rep g w d v
end Mm
namespace Mm
open PySem L2
def R.bind {α β : Type} (r : R α) (f : α → Sto → R β) : R β := match r with
  | .stuck => .stuck
  | .exc c p s => .exc c p s
  | .ok a s => f a s
def opt {α : Type} (o : Option α) (s : Sto) : R α := match o with
  | none => .stuck
  | some a => .ok a s
def PostX (g : Gam) (W : WX) (w0 : Wd) (H0 : Hp) (w : Wd) (σ : L2.St) (env : Envr) (O : List (Option Addr)) {α : Type} (r : R α) (k : α → Sto → Wd → Hp → Prop) : Prop := match r with
  | .stuck => False
  | .ok a S => ∀ w' H', StR g w0 H0 w' H' σ env S O → w.le w' → k a S w' H'
  | .exc c p S => ∀ w' H' cls dd, StR g w0 H0 w' H' σ env S O → w.le w' → ExcR g w' H' c p cls dd → W cls dd σ H'
section
variable {g : Gam} {W : WX} {w0 w w1 : Wd} {H0 H H1 : Hp} {σ : L2.St} {env : Envr} {S S1 : Sto} {O : List (Option Addr)} {α β : Type}
theorem PostX.mono {r : R α} {k : α → Sto → Wd → Hp → Prop} (h : PostX g W w0 H0 w σ env O r k) (l : w.le w1) : PostX g W w0 H0 w1 σ env O r k := by
  cases r with
  | stuck => exact h
  | ok a S => exact fun w' H' st l' => h w' H' st (l.trans l')
  | exc c p S => exact fun w' H' cls dd st l' => h w' H' cls dd st (l.trans l')
theorem PostX.imp {r : R α} {k k' : α → Sto → Wd → Hp → Prop} (h : PostX g W w0 H0 w σ env O r k) (f : ∀ a S w' H', StR g w0 H0 w' H' σ env S O → w.le w' → k a S w' H' → k' a S w' H') : PostX g W w0 H0 w σ env O r k' := by
  cases r with
  | stuck => exact h
  | ok a S => exact fun w' H' st l' => f a S w' H' st l' (h w' H' st l')
  | exc c p S => exact h
theorem PostX.bind {r : R α} {f : α → Sto → R β} {k : β → Sto → Wd → Hp → Prop} (h : PostX g W w0 H0 w σ env O (r.bind f) k) :
    PostX g W w0 H0 w σ env O r (fun a S w' _ => PostX g W w0 H0 w' σ env O (f a S) k) := by
  cases r with
  | stuck => exact h
  | ok a S => exact fun w' H' _ l' => PostX.mono (show PostX g W w0 H0 w σ env O (f a S) k from h) l'
  | exc c p S => exact h
theorem PostX.opt_ {o : Option α} {k : α → Sto → Wd → Hp → Prop} (h : PostX g W w0 H0 w σ env O (opt o S) k) (st : StR g w0 H0 w H σ env S O) : ∃ a, o = some a ∧ ∀ w' H', StR g w0 H0 w' H' σ env S O → w.le w' → k a S w' H' := by
  cases o with
  | none => exact False.elim h
  | some a => exact ⟨a, rfl, h⟩
end
abbrev ME := Envr → Sto → R D
abbrev MF := Envr → Sto → R Cell
abbrev MT := Envr → Sto → R Bool
abbrev MA := Envr → Sto → R (List D)
structure OwnAt (g : Gam) (w : Wd) (H0 H : Hp) (O : List (Option Addr)) (c : Cell) (p : Addr) : Prop where
  n0 : H0 p = none
  ng : w.G p = none
  nr : p ∉ w.rho
  no : ∀ i : Nat, O[i]? ≠ some (some p)
  at_ : CellR g w H p c
def SimE (g : Gam) (W : WX) (t : TE) (m : ME) : Prop := ∀ w0 H0 w H σ env S O (Q : VK), StR g w0 H0 w H σ env S O →
  PostX g W w0 H0 w σ env O (m env S) (fun d _ w' H' => ∀ v, Rep g w' d v → Q v H') → t σ H Q
def SimF (g : Gam) (W : WX) (t : TE) (m : MF) : Prop := ∀ w0 H0 w H σ env S O (Q : VK), StR g w0 H0 w H σ env S O →
  PostX g W w0 H0 w σ env O (m env S) (fun c _ w' H' => ∀ p, OwnAt g w' H0 H' O c p → Q (.ref p) H') → t σ H Q
def SimT (g : Gam) (W : WX) (t : TT) (m : MT) : Prop := ∀ w0 H0 w H σ env S O (Q : Bool → Hp → Prop), StR g w0 H0 w H σ env S O →
  PostX g W w0 H0 w σ env O (m env S) (fun b _ w' H' => Q b H') → t σ H Q
def SimA (g : Gam) (W : WX) (t : TA) (m : MA) : Prop := ∀ w0 H0 w H σ env S O (Q : List V → Hp → Prop), StR g w0 H0 w H σ env S O →
  PostX g W w0 H0 w σ env O (m env S) (fun ds _ w' H' => ∀ vs, RepL g w' ds vs → Q vs H') → t σ H Q
structure SE (X : Cx) (Y : Gam) (W : WX) (e : Expr) (t : TE) (m : ME) : Prop where
  pe : PE X e t
  sim : SimE Y W t m
structure SF (X : Cx) (Y : Gam) (W : WX) (e : Expr) (t : TE) (m : MF) : Prop where
  pe : PE X e t
  sim : SimF Y W t m
structure SC (X : Cx) (Y : Gam) (W : WX) (e : Expr) (t : TT) (m : MT) : Prop where
  pt : PT X e t
  sim : SimT Y W t m
structure SA (X : Cx) (Y : Gam) (W : WX) (es : List Expr) (t : TA) (m : MA) : Prop where
  pa : PA X es t
  sim : SimA Y W t m
  len : ∀ env S ds S1, m env S = .ok ds S1 → ds.length = es.length
section
variable {g : Gam} {W : WX} {w0 w w1 : Wd} {H0 H H1 : Hp} {σ : L2.St} {env : Envr} {S S1 : Sto} {O : List (Option Addr)} {α β : Type}
theorem ok_lay {p : Addr} {o : HO} (k : Ok g w H S) (h : H p = none) (n : ∀ ps, o ≠ .tbl ps) : Ok g w (upd H p o) S ∧ Frame w H w (upd H p o) := by
  refine ⟨⟨k.ex.trans (same_upd h), ⟨k.cells.nd, k.cells.len, fun m a c e1 e2 => ?_⟩, k.tabs.ext (same_upd h), k.notab⟩, ⟨.refl w, fun a x e _ _ => same_upd h a x e, fun a _ => rfl, fun a m => .inl m, fun a e => ?_, fun a ps e => ⟨ps, same_upd h a _ e⟩, fun a x u e => same_upd h a _ e⟩⟩
  · obtain ⟨q1, q2⟩ := k.cells.at_ m a c e1 e2
    obtain ⟨x, q3, _⟩ := q2.some_
    exact ⟨q1, q2.move (.refl w) (upd_ne (ne_of_none q3 h))⟩
  · have ne : a ≠ p := fun z => e (by rw [z]; exact h)
    rw [upd_ne ne]
    exact e
theorem StR.lay {p : Addr} {o : HO} (st : StR g w0 H0 w H σ env S O) (h : H p = none) (n : ∀ ps, o ≠ .tbl ps) : StR g w0 H0 w (upd H p o) σ env S O :=
  let ⟨k, f⟩ := ok_lay st.ok h n
  st.after f k
theorem StR.out {p : Addr} (st : StR g w0 H0 w H σ env S O) (h : H p = none) : H0 p = none ∧ w.G p = none ∧ p ∉ w.rho ∧ ∀ i : Nat, O[i]? ≠ some (some p) := by
  refine ⟨?_, none_of_same st.ok.ex h, fun m => ?_, fun i e => ?_⟩
  · cases e : H0 p with
    | none => rfl
    | some o => exact absurd h (st.fr.dom p (by rw [e]; exact fun q => nomatch q))
  · obtain ⟨_, o, e⟩ := st.ok.cells.in_ m
    rw [h] at e
    cases e
  · obtain ⟨_, _, c, hc⟩ := st.fresh i p e
    have hi : i < σ.length := by
      rw [← st.l2]
      exact (List.getElem?_eq_some_iff.mp e).1
    obtain ⟨p', e1, _, _, e4⟩ := st.sl i (.o c) σ[i] (some p) hc (List.getElem?_eq_getElem hi) e
    cases e1
    obtain ⟨o, e5, _⟩ := e4.some_
    rw [h] at e5
    cases e5
theorem StR.own_new {p : Addr} {o : HO} {c : Cell} (st : StR g w0 H0 w H σ env S O) (h : H p = none) (hc : CellR g w (upd H p o) p c) : OwnAt g w H0 (upd H p o) O c p := by
  obtain ⟨h1, h2, h3, h4⟩ := st.out h
  exact ⟨h1, h2, h3, h4, hc⟩
theorem own_freeze {c : Cell} {p : Addr} (st : StR g w0 H0 w H σ env S O) (a : OwnAt g w H0 H O c p) : ∃ w', StR g w0 H0 w' H σ env S O ∧ w.le w' ∧ Rep g w' c.d (.ref p) := by
  obtain ⟨o, ho, nt⟩ := a.at_.some_
  have le : w.le ⟨w.rho, upd w.G p o⟩ := ⟨⟨[], by simp⟩, same_upd a.ng⟩
  refine ⟨⟨w.rho, upd w.G p o⟩, ⟨⟨fun b x e => ?_, ⟨st.ok.cells.nd, st.ok.cells.len, fun m b c e1 e2 => ?_⟩, st.ok.tabs, fun b ps e => ?_⟩, ⟨st.fr.le.trans le, st.fr.keep, fun b e => ?_, st.fr.rho, st.fr.dom, st.fr.tb, st.fr.fz⟩, st.l1, st.l2, fun i s x q e1 e2 e3 => ?_, st.inj, st.fresh⟩, le, ?_⟩
  · by_cases hb : b = p
    · have e2 : upd w.G p o b = some x := e
      rw [hb, upd_same] at e2
      rw [hb, ho, e2]
    · have e2 : upd w.G p o b = some x := e
      rw [upd_ne hb] at e2
      exact st.ok.ex b x e2
  · obtain ⟨q1, q2⟩ := st.ok.cells.at_ m b c e1 e2
    have ne : b ≠ p := fun z => a.nr (by rw [← z]; exact List.mem_of_getElem? e1)
    exact ⟨(upd_ne ne).trans q1, q2.move le rfl⟩
  · by_cases hb : b = p
    · have e2 : upd w.G p o b = some (.tbl ps) := e
      rw [hb, upd_same] at e2
      exact nt ps (Option.some.inj e2)
    · have e2 : upd w.G p o b = some (.tbl ps) := e
      rw [upd_ne hb] at e2
      exact st.ok.notab b ps e2
  · have ne : b ≠ p := fun z => e (by rw [z]; exact a.n0)
    exact (upd_ne ne).trans (st.fr.newG b e)
  · have q' := st.sl i s x q e1 e2 e3
    cases s with
    | no => exact q'
    | v d =>
      obtain ⟨z1, v, z2, z3⟩ := q'
      exact ⟨z1, v, z2, z3.mono le⟩
    | o c' =>
      obtain ⟨p', z1, z2, z3, z4⟩ := q'
      have ne : p' ≠ p := fun z => a.no i (by rw [e3, z1, z])
      exact ⟨p', z1, z2, (upd_ne ne).trans z3, z4.move le rfl⟩
  · have c2 := a.at_.move le (rfl : H p = H p)
    cases c with
    | lst ds =>
      obtain ⟨vs, e1, e2⟩ := c2
      rw [ho] at e1
      unfold Cell.d Rep
      refine ⟨p, vs, rfl, ?_, e2⟩
      show upd w.G p o p = _
      rw [upd_same, e1]
    | ins c fs =>
      obtain ⟨dx, gs, e1, e2⟩ := c2
      rw [ho] at e1
      unfold Cell.d Rep
      refine ⟨p, dx, gs, rfl, ?_, e2⟩
      show upd w.G p o p = _
      rw [upd_same, e1]
    | dic ks =>
      obtain ⟨gs, e1, e2⟩ := c2
      rw [ho] at e1
      unfold Cell.d Rep
      refine ⟨p, gs, rfl, .inl ?_, e2⟩
      show upd w.G p o p = _
      rw [upd_same, e1]
    | lck ks =>
      obtain ⟨o', gs, e1, e2⟩ := c2
      rw [ho] at e1
      unfold Cell.d Rep
      refine ⟨p, gs, rfl, .inr ⟨o', ?_⟩, e2⟩
      show upd w.G p o p = _
      rw [upd_same, e1]
    | mem ks =>
      unfold Cell.d Rep
      exact ⟨p, rfl⟩
    | lkl ks =>
      unfold Cell.d Rep
      exact ⟨p, rfl⟩
    | tdc ks =>
      have e1 : H p = some (.dT (tdV ks)) := c2
      rw [ho] at e1
      unfold Cell.d Rep
      refine ⟨p, rfl, ?_⟩
      show upd w.G p o p = _
      rw [upd_same, e1]
end
section
variable {X : Cx} {Y : Gam} {W : WX} {e a b : Expr} {es : List Expr} {ta tb te : TE} {tt tu : TT} {ma mb me : ME} {mt mu : MT} {t : TA} {m : MA} {pos : Pos}
def mFrz (mf : MF) : ME := fun env S => (mf env S).bind fun c S1 => .ok c.d S1
theorem SF.val {mf : MF} (h : SF X Y W e te mf) : SE X Y W e te (mFrz mf) := by
  refine ⟨h.pe, fun w0 H0 w H σ env S O Q st p => h.sim w0 H0 w H σ env S O Q st ((PostX.bind p).imp fun c S1 w1 H1 st1 l1 p1 q ow => ?_)⟩
  obtain ⟨w2, st2, l2, r⟩ := own_freeze st1 ow
  exact p1 w2 H1 st2 l2 _ r
def eV (i : Nat) : ME := fun env S => match env[i]? with
  | some (.v d) => .ok d S
  | _ => .stuck
theorem sim_var {g : Gam} {i : Nat} : SimE g W (tVar i) (eV i) := fun w0 H0 w H σ env S O Q st p => by
  unfold eV at p
  split at p
  · rename_i d e
    have hi : i < σ.length := by
      rw [← st.l1]
      exact (List.getElem?_eq_some_iff.mp e).1
    have hO : i < O.length := by
      rw [st.l2]
      exact hi
    obtain ⟨_, v, e1, r⟩ := st.sl i (.v d) σ[i] O[i] e (List.getElem?_eq_getElem hi) (List.getElem?_eq_getElem hO)
    exact ⟨v, by rw [List.getElem?_eq_getElem hi, e1], p w H st (.refl w) v r⟩
  · exact p.elim
theorem sv (i : Nat) {x : Str} (hN : X.N[i]? = some x := by rfl) (hv : Vis X.env.scope x := by first | exact Or.inl rfl | exact Or.inr (Or.inl rfl) | exact Or.inr (Or.inr rfl)) (hd : (x == ("__debug__" : Str)) = false := by decide)
    (hcd : (x == ("__classdict__" : Str)) = false := by decide) : SE X Y W (.Name x pos) (tVar i) (eV i) := ⟨pv i hN hv hd hcd, sim_var⟩
def eC (d : D) : ME := fun _ S => .ok d S
theorem sim_c {g : Gam} {v : V} {d : D} (h : ∀ w, Rep g w d v) : SimE g W (tC v) (eC d) := fun w0 H0 w H σ env S O Q st p => p w H st (.refl w) v (h w)
theorem s_int {i j} : SE X Y W (.Constant (.int i) j pos) (tC (.int i)) (eC (.int i)) := ⟨pe_int, sim_c fun _ => by unfold Rep; rfl⟩
theorem s_bl {i j} : SE X Y W (.Constant (.bool i) j pos) (tC (.bl i)) (eC (.bl i)) := ⟨pe_bl, sim_c fun _ => by unfold Rep; rfl⟩
theorem s_non {j} : SE X Y W (.Constant .none j pos) (tC .non) (eC .non) := ⟨pe_non, sim_c fun _ => by unfold Rep; rfl⟩
theorem s_str {i j} : SE X Y W (.Constant (.str i) j pos) (tC (.str i)) (eC (.str i)) := ⟨pe_str, sim_c fun _ => by unfold Rep; rfl⟩
theorem s_gint {x : Str} {i : Int} {u : Tok} (hm : X.mg x = some (.int i u)) (hg : Gl X x := by rfl) (hd : (x == ("__debug__" : Str)) = false := by decide) : SE X Y W (.Name x pos) (tC (.int i)) (eC (.int i)) :=
  ⟨pe_glob hg hm ⟨u, rfl⟩ hd, sim_c fun _ => by unfold Rep; rfl⟩
def OpD (g : Gam) (r : R2) (f : Sto → D → D → Option D) : Prop := ∀ w H S d1 d2 v1 v2 d (Q : VK), Ok g w H S → Rep g w d1 v1 → Rep g w d2 v2 → f S d1 d2 = some d → (∀ w' H' v, Grow w H w' H' → Rep g w' d v → Q v H') → r v1 v2 H Q
def eOp (f : Sto → D → D → Option D) (ma mb : ME) : ME := fun env S => (ma env S).bind fun d1 S1 => (mb env S1).bind fun d2 S2 => opt (f S2 d1 d2) S2
theorem sim_op {g : Gam} {r : R2} {f : Sto → D → D → Option D} (ho : OpD g r f) (ha : SimE g W ta ma) (hb : SimE g W tb mb) : SimE g W (tOp r ta tb) (eOp f ma mb) := fun w0 H0 w H σ env S O Q st p =>
  ha w0 H0 w H σ env S O _ st ((PostX.bind p).imp fun d1 S1 w1 H1 st1 l1 p1 v1 r1 => hb w0 H0 w1 H1 σ env S1 O _ st1 ((PostX.bind p1).imp fun d2 S2 w2 H2 st2 l2 p2 v2 r2 => by
    obtain ⟨d, e, k⟩ := PostX.opt_ p2 st2
    exact ho w2 H2 S2 d1 d2 v1 v2 d Q st2.ok (r1.mono l2) r2 e fun w3 H3 v q r => k w3 H3 (st2.grow q) (q.le st2.ok) v r))
theorem s_op {op : Operator} {r : R2} {f : Sto → D → D → Option D} (hd : OpD Y r f) (ho : OpR X (binaryOp op) r) (ha : SE X Y W a ta ma) (hb : SE X Y W b tb mb) : SE X Y W (.BinOp a op b pos) (tOp r ta tb) (eOp f ma mb) := ⟨pe_op ho ha.pe hb.pe, sim_op hd ha.sim hb.sim⟩
theorem s_cmp {op : CmpOp} {r : R2} {f : Sto → D → D → Option D} (hd : OpD Y r f) (ho : OpR X (compareOp op) r) (ha : SE X Y W a ta ma) (hb : SE X Y W b tb mb) (hm : behindInMarks op b = false) : SE X Y W (.Compare a [op] [b] pos) (tOp r ta tb) (eOp f ma mb) := ⟨pe_cmpR ho ha.pe hb.pe hm, sim_op hd ha.sim hb.sim⟩
theorem s_ix {r : R2} {f : Sto → D → D → Option D} (hd : OpD Y r f) (ho : IxR X r) (ha : SE X Y W a ta ma) (hb : SE X Y W b tb mb) (hs : PlainIx b) : SE X Y W (.Subscript a b pos) (tOp r ta tb) (eOp f ma mb) := ⟨pe_ix ho ha.pe hb.pe hs, sim_op hd ha.sim hb.sim⟩
theorem OpR.or {X : Cx} {f : Value → Value → Sem Value} {r r' : R2} (h : OpR X f r) (h' : OpR X f r') : OpR X f (fun x y H Q => r x y H Q ∨ r' x y H Q) := fun pins s σ H x y v u Q I r1 r2 q =>
  q.elim (h pins s σ H x y v u Q I r1 r2) (h' pins s σ H x y v u Q I r1 r2)
theorem OpD.or {g : Gam} {r r' : R2} {f f' : Sto → D → D → Option D} (h : OpD g r f) (h' : OpD g r' f') : OpD g (fun x y H Q => r x y H Q ∨ r' x y H Q) (fun S a b => (f S a b).or (f' S a b)) := fun w H S d1 d2 v1 v2 d Q k r1 r2 e q => by
  have e : (f S d1 d2).or (f' S d1 d2) = some d := e
  cases z : f S d1 d2 with
  | some d' =>
    rw [z] at e
    have e2 : d' = d := by simpa using e
    exact .inl (h w H S d1 d2 v1 v2 d Q k r1 r2 (by rw [z, e2]) q)
  | none =>
    rw [z] at e
    exact .inr (h' w H S d1 d2 v1 v2 d Q k r1 r2 (by simpa using e) q)
def fI (g : Int → Int → D) (c : Int → Int → Bool) : Sto → D → D → Option D
  | _, .int i, .int j => if c i j then some (g i j) else none
  | _, _, _ => none
theorem rep_int {g : Gam} {w : Wd} {i : Int} {v : V} (h : Rep g w (.int i) v) : v = .int i := by
  unfold Rep at h
  exact h
theorem rep_int' {g : Gam} {w : Wd} {i : Int} : Rep g w (.int i) (.int i) := by
  unfold Rep
  rfl
theorem rep_bl' {g : Gam} {w : Wd} {i : Bool} : Rep g w (.bl i) (.bl i) := by
  unfold Rep
  rfl
theorem od_I {g : Gam} {C : Int → Int → Prop} {h : Int → Int → V} {k : Int → Int → D} {c : Int → Int → Bool} (hc : ∀ i j, c i j = true → C i j) (hk : ∀ i j w, Rep g w (k i j) (h i j)) : OpD g (rI C h) (fI k c) := fun w H S d1 d2 v1 v2 d Q _ r1 r2 e q => by
  unfold fI at e
  split at e
  · rename_i i j
    split at e
    · rename_i z
      cases e
      exact ⟨i, j, rep_int r1, rep_int r2, hc i j z, q w H _ .refl (hk i j w)⟩
    · cases e
  · cases e
theorem od_I0 {g : Gam} {h : Int → Int → V} {k : Int → Int → D} (hk : ∀ i j w, Rep g w (k i j) (h i j)) : OpD g (rI0 h) (fI k fun _ _ => true) := fun w H S d1 d2 v1 v2 d Q _ r1 r2 e q => by
  unfold fI at e
  split at e
  · rename_i i j
    simp only [if_true] at e
    cases e
    exact ⟨i, j, rep_int r1, rep_int r2, q w H _ .refl (hk i j w)⟩
  · cases e
end
end Mm
namespace Mm
open PySem L2
section
variable {X : Cx} {Y : Gam} {W : WX} {e a b c : Expr} {es rest : List Expr} {ta tb te : TE} {tt tu : TT} {ma mb me : ME} {mt mu : MT} {t : TA} {m : MA} {pos : Pos}
def cB (me : ME) : MT := fun env S => (me env S).bind fun d S1 => match d with
  | .bl k => .ok k S1
  | _ => .stuck
theorem sim_test {g : Gam} (h : SimE g W te me) : SimT g W (tTest te) (cB me) := fun w0 H0 w H σ env S O Q st p =>
  h w0 H0 w H σ env S O _ st ((PostX.bind p).imp fun d S1 w1 H1 st1 l1 p1 v r => by
    cases d with
    | bl k =>
      unfold Rep at r
      exact ⟨k, r, p1 w1 H1 st1 (.refl w1)⟩
    | _ => exact False.elim p1)
theorem c_val {te : TE} (h : SE X Y W e te me) (he : ∀ whole, isTrue e X.env whole = (do let v ← whole; standAt e.pos; holding [v] (truthy v)) := by intro _; rfl) : SC X Y W e (tB te) (cB me) := ⟨pt_val h.pe he, sim_test h.sim⟩
theorem c_cmp {op : CmpOp} {r : R2} {f : Sto → D → D → Option D} (hd : OpD Y r f) (ho : OpR X (compareOp op) r) (ha : SE X Y W a ta ma) (hb : SE X Y W b tb mb) (hm : behindInMarks op b = false) : SC X Y W (.Compare a [op] [b] pos) (tTest (tOp r ta tb)) (cB (eOp f ma mb)) :=
  ⟨pt_cmpR ho ha.pe hb.pe hm, sim_test (sim_op hd ha.sim hb.sim)⟩
structure SW (X : Cx) (Y : Gam) (W : WX) (e : Expr) (t : TT) (m : MT) : Prop where
  pw : PW X e t
  sim : SimT Y W t m
theorem SW.sc (h : SW X Y W e tt mt) : SC X Y W e tt mt := ⟨h.pw.pt, h.sim⟩
def cAnd (a b : MT) : MT := fun env S => (a env S).bind fun k S1 => if k = true then b env S1 else .ok false S1
def cOr (a b : MT) : MT := fun env S => (a env S).bind fun k S1 => if k = true then .ok true S1 else b env S1
def cNot (a : MT) : MT := fun env S => (a env S).bind fun k S1 => .ok (!k) S1
theorem sim_and {g : Gam} (h1 : SimT g W tt mt) (h2 : SimT g W tu mu) : SimT g W (tAnd tt tu) (cAnd mt mu) := fun w0 H0 w H σ env S O Q st p =>
  h1 w0 H0 w H σ env S O _ st ((PostX.bind p).imp fun k S1 w1 H1 st1 l1 p1 => by
    cases k with
    | true =>
      simp only [if_true] at p1 ⊢
      exact h2 w0 H0 w1 H1 σ env S1 O Q st1 p1
    | false =>
      simp only [Bool.false_eq_true, if_false] at p1 ⊢
      exact p1 w1 H1 st1 (.refl w1))
theorem sim_or {g : Gam} (h1 : SimT g W tt mt) (h2 : SimT g W tu mu) : SimT g W (tOr tt tu) (cOr mt mu) := fun w0 H0 w H σ env S O Q st p =>
  h1 w0 H0 w H σ env S O _ st ((PostX.bind p).imp fun k S1 w1 H1 st1 l1 p1 => by
    cases k with
    | false =>
      simp only [Bool.false_eq_true, if_false] at p1 ⊢
      exact h2 w0 H0 w1 H1 σ env S1 O Q st1 p1
    | true =>
      simp only [if_true] at p1 ⊢
      exact p1 w1 H1 st1 (.refl w1))
theorem sim_not {g : Gam} (h1 : SimT g W tt mt) : SimT g W (tNot tt) (cNot mt) := fun w0 H0 w H σ env S O Q st p =>
  h1 w0 H0 w H σ env S O _ st ((PostX.bind p).imp fun k S1 w1 H1 st1 l1 p1 => p1 w1 H1 st1 (.refl w1))
theorem w_and1 (ha : SC X Y W a tt mt) : SW X Y W (.BoolOp .And [a] pos) tt mt := ⟨pw_and1 ha.pt, ha.sim⟩
theorem w_or1 (ha : SC X Y W a tt mt) : SW X Y W (.BoolOp .Or [a] pos) tt mt := ⟨pw_or1 ha.pt, ha.sim⟩
theorem w_and (ha : SC X Y W a tt mt) (hb : SW X Y W (.BoolOp .And (b :: rest) pos) tu mu) : SW X Y W (.BoolOp .And (a :: b :: rest) pos) (tAnd tt tu) (cAnd mt mu) := ⟨pw_and ha.pt hb.pw, sim_and ha.sim hb.sim⟩
theorem w_or (ha : SC X Y W a tt mt) (hb : SW X Y W (.BoolOp .Or (b :: rest) pos) tu mu) : SW X Y W (.BoolOp .Or (a :: b :: rest) pos) (tOr tt tu) (cOr mt mu) := ⟨pw_or ha.pt hb.pw, sim_or ha.sim hb.sim⟩
theorem c_not (ha : SC X Y W a tt mt) : SC X Y W (.UnaryOp .Not a pos) (tNot tt) (cNot mt) := ⟨pt_not ha.pt, sim_not ha.sim⟩
def eAnd (a b : ME) : ME := fun env S => (a env S).bind fun d S1 => match d with
  | .bl true => b env S1
  | .bl false => .ok (.bl false) S1
  | _ => .stuck
def eOr (a b : ME) : ME := fun env S => (a env S).bind fun d S1 => match d with
  | .bl true => .ok (.bl true) S1
  | .bl false => b env S1
  | _ => .stuck
theorem sim_andV {g : Gam} (h1 : SimE g W ta ma) (h2 : SimE g W tb mb) : SimE g W (tAndV ta tb) (eAnd ma mb) := fun w0 H0 w H σ env S O Q st p =>
  h1 w0 H0 w H σ env S O _ st ((PostX.bind p).imp fun d S1 w1 H1 st1 l1 p1 v r => by
    cases d with
    | bl k =>
      unfold Rep at r
      refine ⟨k, r, ?_⟩
      cases k with
      | true =>
        simp only [if_true]
        exact h2 w0 H0 w1 H1 σ env S1 O Q st1 p1
      | false =>
        simp only [Bool.false_eq_true, if_false]
        exact p1 w1 H1 st1 (.refl w1) _ rep_bl'
    | _ => exact False.elim p1)
theorem sim_orV {g : Gam} (h1 : SimE g W ta ma) (h2 : SimE g W tb mb) : SimE g W (tOrV ta tb) (eOr ma mb) := fun w0 H0 w H σ env S O Q st p =>
  h1 w0 H0 w H σ env S O _ st ((PostX.bind p).imp fun d S1 w1 H1 st1 l1 p1 v r => by
    cases d with
    | bl k =>
      unfold Rep at r
      refine ⟨k, r, ?_⟩
      cases k with
      | false =>
        simp only [Bool.false_eq_true, if_false]
        exact h2 w0 H0 w1 H1 σ env S1 O Q st1 p1
      | true =>
        simp only [if_true]
        exact p1 w1 H1 st1 (.refl w1) _ rep_bl'
    | _ => exact False.elim p1)
theorem s_one {op} (h : SE X Y W a te me) : SE X Y W (.BoolOp op [a] pos) te me := ⟨pe_one h.pe, h.sim⟩
theorem s_and (ha : SE X Y W a ta ma) (hb : SE X Y W (.BoolOp .And (b :: rest) pos) tb mb) : SE X Y W (.BoolOp .And (a :: b :: rest) pos) (tAndV ta tb) (eAnd ma mb) := ⟨pe_and ha.pe hb.pe, sim_andV ha.sim hb.sim⟩
theorem s_or (ha : SE X Y W a ta ma) (hb : SE X Y W (.BoolOp .Or (b :: rest) pos) tb mb) : SE X Y W (.BoolOp .Or (a :: b :: rest) pos) (tOrV ta tb) (eOr ma mb) := ⟨pe_or ha.pe hb.pe, sim_orV ha.sim hb.sim⟩
def eIf (t : MT) (a b : ME) : ME := fun env S => (t env S).bind fun k S1 => if k = true then a env S1 else b env S1
theorem s_if (hc : SC X Y W c tt mt) (ha : SE X Y W a ta ma) (hb : SE X Y W b tb mb) : SE X Y W (.IfExp c a b pos) (tIf tt ta tb) (eIf mt ma mb) := ⟨pe_ifExp hc.pt ha.pe hb.pe, fun w0 H0 w H σ env S O Q st p =>
  hc.sim w0 H0 w H σ env S O _ st ((PostX.bind p).imp fun k S1 w1 H1 st1 l1 p1 => by
    cases k with
    | true =>
      simp only [if_true] at p1 ⊢
      exact ha.sim w0 H0 w1 H1 σ env S1 O Q st1 p1
    | false =>
      simp only [Bool.false_eq_true, if_false] at p1 ⊢
      exact hb.sim w0 H0 w1 H1 σ env S1 O Q st1 p1)⟩
def UnD (g : Gam) (r : V → Hp → VK → Prop) (f : Sto → D → Option D) : Prop := ∀ w H S d1 v1 d (Q : VK), Ok g w H S → Rep g w d1 v1 → f S d1 = some d → (∀ w' H' v, Grow w H w' H' → Rep g w' d v → Q v H') → r v1 H Q
def eUn (f : Sto → D → Option D) (ma : ME) : ME := fun env S => (ma env S).bind fun d1 S1 => opt (f S1 d1) S1
theorem s_un {op : UnaryOp} {r : V → Hp → VK → Prop} {f : Sto → D → Option D} (hd : UnD Y r f) (ho : UnR X (unaryOp op) r) (ha : SE X Y W a ta ma) : SE X Y W (.UnaryOp op a pos) (tUn r ta) (eUn f ma) := ⟨pe_un ho ha.pe, fun w0 H0 w H σ env S O Q st p =>
  ha.sim w0 H0 w H σ env S O _ st ((PostX.bind p).imp fun d1 S1 w1 H1 st1 l1 p1 v1 r1 => by
    obtain ⟨d, e, k⟩ := PostX.opt_ p1 st1
    exact hd w1 H1 S1 d1 v1 d Q st1.ok r1 e fun w3 H3 v q r => k w3 H3 (st1.grow q) (q.le st1.ok) v r)⟩
def fNeg : Sto → D → Option D
  | _, .int i => some (.int (-i))
  | _, _ => none
theorem ud_neg {g : Gam} : UnD g (rU fun i => .int (-i)) fNeg := fun w H S d1 v1 d Q _ r1 e q => by
  unfold fNeg at e
  split at e
  · rename_i i
    cases e
    exact ⟨i, rep_int r1, q w H _ .refl rep_int'⟩
  · cases e
def aNil : MA := fun _ S => .ok [] S
def aCons (ma : ME) (mr : MA) : MA := fun env S => (ma env S).bind fun d S1 => (mr env S1).bind fun ds S2 => .ok (d :: ds) S2
theorem a_nil : SA X Y W [] tNil aNil := ⟨pa_nil, fun w0 H0 w H σ env S O Q st p => p w H st (.refl w) [] RepL.nil_, fun env S ds S1 e => by cases e; rfl⟩
theorem a_cons (ha : SE X Y W e te me) (hr : SA X Y W es t m) (hs : starEach (e :: es) X.env = (false, eval e X.env) :: starEach es X.env := by rfl) : SA X Y W (e :: es) (tCons te t) (aCons me m) := ⟨pa_cons ha.pe hr.pa hs, fun w0 H0 w H σ env S O Q st p =>
  ha.sim w0 H0 w H σ env S O _ st ((PostX.bind p).imp fun d S1 w1 H1 st1 l1 p1 v r => hr.sim w0 H0 w1 H1 σ env S1 O _ st1 ((PostX.bind p1).imp fun ds S2 w2 H2 st2 l2 p2 vs rs => p2 w2 H2 st2 (.refl w2) (v :: vs) (RepL.cons_ (r.mono l2) rs))), fun env S ds S1 h => by
  unfold aCons at h
  cases e1 : me env S with
  | stuck => rw [e1] at h; cases h
  | exc c q s => rw [e1] at h; cases h
  | ok d s =>
    rw [e1] at h
    have h : ((m env s).bind fun ds S2 => R.ok (d :: ds) S2) = .ok ds S1 := h
    cases e2 : m env s with
    | stuck => rw [e2] at h; cases h
    | exc c q s => rw [e2] at h; cases h
    | ok d2 s2 =>
      rw [e2] at h
      have h : R.ok (d :: d2) s2 = .ok ds S1 := h
      cases h
      rw [List.length_cons, List.length_cons, hr.len _ _ _ _ e2]⟩
def szB (n : Nat) : Bool := decide (n ≤ 100000)
theorem szB_le {n : Nat} (h : szB n = true) : n ≤ sizeLine := Nat.le_trans (of_decide_eq_true h) (by decide)
theorem nt_tup {xs : List V} : ∀ ps, HO.tup xs ≠ .tbl ps := fun _ z => by cases z
theorem nt_lst {xs : List V} : ∀ ps, HO.lst xs ≠ .tbl ps := fun _ z => by cases z
theorem nt_ins {C dx : Addr} {fs : List (Str × V)} : ∀ ps, HO.ins C dx fs ≠ .tbl ps := fun _ z => by cases z
theorem nt_own {x : Addr} : ∀ ps, HO.own x ≠ .tbl ps := fun _ z => by cases z
def eTup (m : MA) : ME := fun env S => (m env S).bind fun ds S1 => if szB ds.length then .ok (.tup ds) S1 else .stuck
theorem rep_tup_new {g : Gam} {w : Wd} {H : Hp} {S : Sto} {p : Addr} {ds : List D} {vs : List V} (k : Ok g w H S) (h : H p = none) (r : RepL g w ds vs) : Rep g ⟨w.rho, upd w.G p (.tup vs)⟩ (.tup ds) (.ref p) := by
  unfold Rep
  exact ⟨p, vs, rfl, .inl (.inl upd_same), r.mono (Grow.le (Grow.one h nt_tup) k)⟩
theorem s_tup {x1} (h : SA X Y W es t m) : SE X Y W (.Tuple es x1 pos) (tTup t) (eTup m) := ⟨pe_tup h.pa, fun w0 H0 w H σ env S O Q st p =>
  h.sim w0 H0 w H σ env S O _ st ((PostX.bind p).imp fun ds S1 w1 H1 st1 l1 p1 vs r => by
    split at p1
    · rename_i z
      refine ⟨by rw [← r.len]; exact szB_le z, fun q hq => ?_⟩
      have G := Grow.one (w := w1) (o := .tup vs) hq nt_tup
      exact p1 _ _ (st1.grow G) (G.le st1.ok) _ (rep_tup_new st1.ok hq r)
    · exact False.elim p1)⟩
def fLst (m : MA) : MF := fun env S => (m env S).bind fun ds S1 => if szB ds.length then .ok (.lst ds) S1 else .stuck
theorem f_lst (h : SA X Y W es t m) : SF X Y W (.List es pos) (tLst t) (fLst m) := ⟨pe_lst h.pa, fun w0 H0 w H σ env S O Q st p =>
  h.sim w0 H0 w H σ env S O _ st ((PostX.bind p).imp fun ds S1 w1 H1 st1 l1 p1 vs r => by
    split at p1
    · rename_i z
      refine ⟨by rw [← r.len]; exact szB_le z, fun q hq => ?_⟩
      exact p1 w1 _ (st1.lay hq nt_lst) (.refl w1) q (st1.own_new hq ⟨vs, upd_same, r⟩)
    · exact False.elim p1)⟩
def RetR (g : Gam) (w : Wd) (H0 H : Hp) (r : Ret) (v : V) : Prop := match r with
  | .val d => Rep g w d v
  | .own c => ∃ p, v = .ref p ∧ H0 p = none ∧ w.G p = none ∧ p ∉ w.rho ∧ CellR g w H p c
def PostF (g : Gam) (w : Wd) (H : Hp) (Q : VK) (E : XK) : R Ret → Prop
  | .stuck => False
  | .ok r S => ∀ w' H' v, Frame w H w' H' → Ok g w' H' S → RetR g w' H H' r v → Q v H'
  | .exc c p S => ∀ w' H' cls dd, Frame w H w' H' → Ok g w' H' S → ExcR g w' H' c p cls dd → E cls dd H'
abbrev MFn := List D → Sto → R Ret
def spOf (g : Gam) (n : Nat) (m : MFn) : Sp := fun vs H Q E => vs.length = n ∧ ∃ w ds S, Ok g w H S ∧ RepL g w ds vs ∧ PostF g w H Q E (m ds S)
theorem post_val {g : Gam} {w0 w : Wd} {H0 H : Hp} {σ : L2.St} {env : Envr} {S : Sto} {O : List (Option Addr)} {Q : VK} {r : R Ret} (st : StR g w0 H0 w H σ env S O)
    (p : PostX g W w0 H0 w σ env O (r.bind fun r S2 => R.ok r.d S2) (fun d _ w' H' => ∀ v, Rep g w' d v → Q v H')) : PostF g w H Q (fun cls dd H' => W cls dd σ H') r := by
  cases r with
  | stuck => exact p
  | exc c q S2 => exact fun w' H' cls dd f k x => p w' H' cls dd (st.after f k) f.le x
  | ok r S2 =>
    intro w' H' v f k x
    have st2 := st.after f k
    cases r with
    | val d => exact p w' H' st2 f.le v x
    | own c =>
      obtain ⟨q, e, n0, ng, nr, at_⟩ := x
      have ow : OwnAt g w' H0 H' O c q := by
        obtain ⟨z1, z2, z3, z4⟩ := st.out n0
        exact ⟨z1, ng, nr, z4, at_⟩
      obtain ⟨w3, st3, l3, r3⟩ := own_freeze st2 ow
      rw [e]
      exact p w3 H' st3 (f.le.trans l3) _ r3
def rOwn : Ret → Sto → R Cell
  | .own c, S => .ok c S
  | .val _, _ => .stuck
theorem post_own {g : Gam} {w0 w : Wd} {H0 H : Hp} {σ : L2.St} {env : Envr} {S : Sto} {O : List (Option Addr)} {Q : VK} {r : R Ret} (st : StR g w0 H0 w H σ env S O)
    (p : PostX g W w0 H0 w σ env O (r.bind rOwn) (fun c _ w' H' => ∀ p, OwnAt g w' H0 H' O c p → Q (.ref p) H')) : PostF g w H Q (fun cls dd H' => W cls dd σ H') r := by
  cases r with
  | stuck => exact p
  | exc c q S2 => exact fun w' H' cls dd f k x => p w' H' cls dd (st.after f k) f.le x
  | ok r S2 =>
    intro w' H' v f k x
    have st2 := st.after f k
    cases r with
    | val d => exact False.elim p
    | own c =>
      obtain ⟨q, e, n0, ng, nr, at_⟩ := x
      obtain ⟨z1, z2, z3, z4⟩ := st.out n0
      rw [e]
      exact p w' H' st2 f.le q ⟨z1, ng, nr, z4, at_⟩
def eCall (f : MFn) (dd : List D) (m : MA) : ME := fun env S => (m env S).bind fun ds S1 => (f (ds ++ dd) S1).bind fun r S2 => .ok r.d S2
def fCall (f : MFn) (dd : List D) (m : MA) : MF := fun env S => (m env S).bind fun ds S1 => (f (ds ++ dd) S1).bind rOwn
variable {k n : Nat} {f : Addr} {fd : FuncData} {ps : List Str} {mf : MFn} {dvs : List V} {ds : List Value} {dd : List D} {x : Str} {p : Pos}
theorem sim_callA {g : Gam} (hdv : ∀ w, RepL g w dd dvs) (ha : SimA g W t m) (hlen : ∀ env S ds S1, m env S = .ok ds S1 → ds.length + dd.length = n) {w0 w : Wd} {H0 H : Hp} {σ : L2.St} {env : Envr} {S : Sto} {O : List (Option Addr)} {α : Type} {F : Ret → Sto → R α} {kk : α → Sto → Wd → Hp → Prop} {Q : VK}
    (st : StR g w0 H0 w H σ env S O) (p : PostX g W w0 H0 w σ env O ((m env S).bind fun ds S1 => (mf (ds ++ dd) S1).bind F) kk)
    (fin : ∀ w1 H1 S1 r, StR g w0 H0 w1 H1 σ env S1 O → PostX g W w0 H0 w1 σ env O (r.bind F) kk → PostF g w1 H1 Q (WE W σ) r) : t σ H (fun vs H1 => spOf g n mf (vs ++ dvs) H1 Q (WE W σ)) := by
  refine ha w0 H0 w H σ env S O _ st ?_
  have p2 := PostX.bind p
  cases e : m env S with
  | stuck =>
    rw [e] at p2
    exact p2
  | exc c q S2 =>
    rw [e] at p2
    exact p2
  | ok ds S1 =>
    rw [e] at p2
    intro w1 H1 st1 l1 vs rs
    have p3 := p2 w1 H1 st1 l1
    have r2 := rs.append_ (hdv w1)
    refine ⟨?_, w1, ds ++ dd, S1, st1.ok, r2, fin w1 H1 S1 _ st1 p3⟩
    rw [← r2.len, List.length_append]
    exact hlen env S ds S1 e
theorem s_call (F : FnOk X.prog X.w X.K X.mg X.base (L2N.CX X.prog X.w) k f fd ps (spOf Y n mf)) (hr : Room k X.A) (hm : X.mg x = some (.ref f)) (hk : PySem.W.keepIn X.K (.ref f) = true) (hb : Binds X.K fd ps ds) (hd : Vals dvs ds) (hdv : ∀ w, RepL Y w dd dvs) (tk : L2N.Takes X W)
    (ha : SA X Y W (e :: es) t m) (hn : (e :: es).length + dd.length = n := by rfl) (hg : Gl X x := by rfl) (hdb : (x == ("__debug__" : Str)) = false := by decide) (he : starEach (e :: es) X.env = (false, eval e X.env) :: starEach es X.env := by rfl) (hpl : (backTo pos (starEach es X.env)).any (·.1) = false := by rfl) :
    SE X Y W (.Call (.Name x p) (e :: es) [] pos) (tCallSD (spOf Y n mf) dvs (WE W) t) (eCall mf dd m) :=
  ⟨pe_callSD F hr hg hm hk hb hd (fun σ => L2N.passAt tk σ) ha.pa hdb he hpl, fun w0 H0 w H σ env S O Q st p => sim_callA hdv ha.sim (fun env S ds S1 h => by rw [ha.len _ _ _ _ h]; exact hn) st p fun w1 H1 S1 r st1 p1 => post_val st1 p1⟩
theorem f_call (F : FnOk X.prog X.w X.K X.mg X.base (L2N.CX X.prog X.w) k f fd ps (spOf Y n mf)) (hr : Room k X.A) (hm : X.mg x = some (.ref f)) (hk : PySem.W.keepIn X.K (.ref f) = true) (hb : Binds X.K fd ps ds) (hd : Vals dvs ds) (hdv : ∀ w, RepL Y w dd dvs) (tk : L2N.Takes X W)
    (ha : SA X Y W (e :: es) t m) (hn : (e :: es).length + dd.length = n := by rfl) (hg : Gl X x := by rfl) (hdb : (x == ("__debug__" : Str)) = false := by decide) (he : starEach (e :: es) X.env = (false, eval e X.env) :: starEach es X.env := by rfl) (hpl : (backTo pos (starEach es X.env)).any (·.1) = false := by rfl) :
    SF X Y W (.Call (.Name x p) (e :: es) [] pos) (tCallSD (spOf Y n mf) dvs (WE W) t) (fCall mf dd m) :=
  ⟨pe_callSD F hr hg hm hk hb hd (fun σ => L2N.passAt tk σ) ha.pa hdb he hpl, fun w0 H0 w H σ env S O Q st p => sim_callA hdv ha.sim (fun env S ds S1 h => by rw [ha.len _ _ _ _ h]; exact hn) st p fun w1 H1 S1 r st1 p1 => post_own st1 p1⟩
end
end Mm
namespace Mm
open PySem L2
section
variable {g : Gam} {w0 w w1 : Wd} {H0 H H1 : Hp} {σ : L2.St} {env : Envr} {S S1 : Sto} {O : List (Option Addr)}
theorem StR.set_v (st : StR g w0 H0 w H σ env S O) (i : Nat) {d : D} {v : V} (r : Rep g w d v) : StR g w0 H0 w H (σ.set i (some v)) (env.set i (.v d)) S (O.set i none) := by
  refine ⟨st.ok, st.fr, by rw [List.length_set, List.length_set]; exact st.l1, by rw [List.length_set, List.length_set]; exact st.l2, fun j s x o e1 e2 e3 => ?_, fun j k p e1 e2 => ?_, fun j p e => ?_⟩
  · rw [List.getElem?_set] at e1 e2 e3
    by_cases hj : i = j
    · rw [if_pos hj] at e1 e2 e3
      split at e1
      · split at e2
        · split at e3
          · cases e1
            cases e2
            cases e3
            exact ⟨rfl, v, rfl, r⟩
          · cases e3
        · cases e2
      · cases e1
    · rw [if_neg hj] at e1 e2 e3
      exact st.sl j s x o e1 e2 e3
  · rw [List.getElem?_set] at e1 e2
    have h1 : i ≠ j := fun z => by
      rw [if_pos z] at e1
      split at e1 <;> cases e1
    have h2 : i ≠ k := fun z => by
      rw [if_pos z] at e2
      split at e2 <;> cases e2
    rw [if_neg h1] at e1
    rw [if_neg h2] at e2
    exact st.inj j k p e1 e2
  · rw [List.getElem?_set] at e
    have h1 : i ≠ j := fun z => by
      rw [if_pos z] at e
      split at e <;> cases e
    rw [if_neg h1] at e
    obtain ⟨a, b, c, hc⟩ := st.fresh j p e
    exact ⟨a, b, c, by rw [List.getElem?_set, if_neg h1]; exact hc⟩
theorem StR.set_o (st : StR g w0 H0 w H σ env S O) (i : Nat) {c : Cell} {p : Addr} (r : OwnAt g w H0 H O c p) (hi : i < σ.length) : StR g w0 H0 w H (σ.set i (some (.ref p))) (env.set i (.o c)) S (O.set i (some p)) := by
  refine ⟨st.ok, st.fr, by rw [List.length_set, List.length_set]; exact st.l1, by rw [List.length_set, List.length_set]; exact st.l2, fun j s x o e1 e2 e3 => ?_, fun j k q e1 e2 => ?_, fun j q e => ?_⟩
  · rw [List.getElem?_set] at e1 e2 e3
    by_cases hj : i = j
    · rw [if_pos hj, if_pos (by rw [st.l1]; exact hi)] at e1
      rw [if_pos hj, if_pos hi] at e2
      rw [if_pos hj, if_pos (by rw [st.l2]; exact hi)] at e3
      cases e1
      cases e2
      cases e3
      exact ⟨p, rfl, rfl, r.ng, r.at_⟩
    · rw [if_neg hj] at e1 e2 e3
      exact st.sl j s x o e1 e2 e3
  · rw [List.getElem?_set] at e1 e2
    by_cases h1 : i = j
    · by_cases h2 : i = k
      · exact h1.symm.trans h2
      · rw [if_neg h2] at e2
        rw [if_pos h1] at e1
        split at e1
        · cases e1
          exact absurd e2 (r.no k)
        · cases e1
    · rw [if_neg h1] at e1
      by_cases h2 : i = k
      · rw [if_pos h2] at e2
        split at e2
        · cases e2
          exact absurd e1 (r.no j)
        · cases e2
      · rw [if_neg h2] at e2
        exact st.inj j k q e1 e2
  · rw [List.getElem?_set] at e
    by_cases h1 : i = j
    · rw [if_pos h1] at e
      split at e
      · cases e
        exact ⟨r.n0, r.nr, c, by rw [List.getElem?_set, if_pos h1, if_pos (by rw [st.l1]; exact hi)]⟩
      · cases e
    · rw [if_neg h1] at e
      obtain ⟨a, b, c, hc⟩ := st.fresh j q e
      exact ⟨a, b, c, by rw [List.getElem?_set, if_neg h1]; exact hc⟩
theorem StR.own_at (st : StR g w0 H0 w H σ env S O) {i : Nat} {c : Cell} (h : env[i]? = some (.o c)) : ∃ p, σ[i]? = some (some (.ref p)) ∧ O[i]? = some (some p) ∧ w.G p = none ∧ CellR g w H p c ∧ H0 p = none ∧ p ∉ w.rho ∧ i < σ.length := by
  have hi : i < σ.length := by
    rw [← st.l1]
    exact (List.getElem?_eq_some_iff.mp h).1
  have hO : i < O.length := by
    rw [st.l2]
    exact hi
  obtain ⟨p, e1, e2, e3, e4⟩ := st.sl i (.o c) σ[i] O[i] h (List.getElem?_eq_getElem hi) (List.getElem?_eq_getElem hO)
  have e5 : O[i]? = some (some p) := by rw [List.getElem?_eq_getElem hO, e1]
  exact ⟨p, by rw [List.getElem?_eq_getElem hi, e2], e5, e3, e4, (st.fresh i p e5).1, (st.fresh i p e5).2.1, hi⟩
theorem StR.mut (st : StR g w0 H0 w H σ env S O) {i : Nat} {c c' : Cell} {p : Addr} {o : HO} (h : env[i]? = some (.o c)) (hO : O[i]? = some (some p)) (r : CellR g w (upd H p o) p c') (nt : ∀ ps, o ≠ .tbl ps) : StR g w0 H0 w (upd H p o) σ (env.set i (.o c')) S O := by
  obtain ⟨p', e1, e2, e3, e4, e5, e6, hi⟩ := st.own_at h
  rw [hO] at e2
  cases e2
  obtain ⟨x, e7, e8⟩ := e4.some_
  have noG : ∀ b, w.G b ≠ none → b ≠ p := fun b q z => q (by rw [z]; exact e3)
  refine ⟨⟨fun b u e => ?_, ⟨st.ok.cells.nd, st.ok.cells.len, fun m b q e9 e10 => ?_⟩, tabs_upd st.ok.tabs (fun ps z => by rw [e7] at z; exact e8 ps (Option.some.inj z)) (fun φ nm z => e4.noext φ nm z), st.ok.notab⟩, ⟨st.fr.le, fun b u q1 q2 q3 => ?_, st.fr.newG, st.fr.rho, fun b q => ?_, fun b ps q => by rw [upd_ne (fun z => by rw [z, e5] at q; cases q)]; exact st.fr.tb b ps q, fun b x u q => by rw [upd_ne (fun z => by rw [z, e5] at q; cases q)]; exact st.fr.fz b x u q⟩, by rw [List.length_set]; exact st.l1, st.l2, fun j s y q z1 z2 z3 => ?_, st.inj, fun j q e => ?_⟩
  · rw [upd_ne (noG b (by rw [e]; exact fun z => nomatch z))]
    exact st.ok.ex b u e
  · obtain ⟨q1, q2⟩ := st.ok.cells.at_ m b q e9 e10
    exact ⟨q1, q2.move (.refl w) (upd_ne fun z => e6 (by rw [← z]; exact List.mem_of_getElem? e9))⟩
  · rw [upd_ne (fun z => by rw [z, e5] at q1; cases q1)]
    exact st.fr.keep b u q1 q2 q3
  · by_cases hb : b = p
    · rw [hb, upd_same]
      exact fun z => nomatch z
    · rw [upd_ne hb]
      exact st.fr.dom b q
  · rw [List.getElem?_set] at z1
    by_cases hj : i = j
    · rw [if_pos hj, if_pos (by rw [st.l1]; exact hi)] at z1
      cases z1
      rw [hj] at hO e1
      rw [hO] at z3
      rw [e1] at z2
      cases z3
      cases z2
      exact ⟨p, rfl, rfl, e3, r⟩
    · rw [if_neg hj] at z1
      have q' := st.sl j s y q z1 z2 z3
      cases s with
      | no => exact q'
      | v d => exact q'
      | o cj =>
        obtain ⟨pj, y1, y2, y3, y4⟩ := q'
        rw [y1] at z3
        have ne : pj ≠ p := fun z => hj (st.inj i j p hO (by rw [z3, z]))
        exact ⟨pj, y1, y2, y3, y4.move (.refl w) (upd_ne ne)⟩
  · obtain ⟨a, b, cj, hc⟩ := st.fresh j q e
    refine ⟨a, b, ?_⟩
    by_cases hj : i = j
    · exact ⟨c', by rw [List.getElem?_set, if_pos hj, if_pos (by rw [st.l1]; exact hi)]⟩
    · exact ⟨cj, by rw [List.getElem?_set, if_neg hj]; exact hc⟩
theorem ok_cell (k : Ok g w H S) {n : Nat} {c c' : Cell} {a : Addr} {o : HO} (hn : w.rho[n]? = some a) (hc : S[n]? = some c) (r : CellR g w (upd H a o) a c') (nt : ∀ ps, o ≠ .tbl ps) (cf : c.fr := by exact True.intro) : Ok g w (upd H a o) (S.set n c') ∧ Frame w H w (upd H a o) := by
  obtain ⟨e3, e4⟩ := k.cells.at_ n a c hn hc
  obtain ⟨x, e7, e8⟩ := e4.some_
  have noG : ∀ b, w.G b ≠ none → b ≠ a := fun b q z => q (by rw [z]; exact e3)
  refine ⟨⟨fun b u e => ?_, ⟨k.cells.nd, by rw [List.length_set]; exact k.cells.len, fun m b q e9 e10 => ?_⟩, tabs_upd k.tabs (fun ps z => by rw [e7] at z; exact e8 ps (Option.some.inj z)) (fun φ nm z => e4.noext φ nm z), k.notab⟩, ⟨.refl w, fun b u q1 q2 q3 => ?_, fun _ _ => rfl, fun b q => .inl q, fun b q => ?_, fun b ps q => ⟨ps, by rw [upd_ne (fun z => by rw [z, e7] at q; exact e8 ps (Option.some.inj q))]; exact q⟩, fun b x u q => by rw [upd_ne (fun z => e4.nofrz cf x u (by rw [← z]; exact q))]; exact q⟩⟩
  · rw [upd_ne (noG b (by rw [e]; exact fun z => nomatch z))]
    exact k.ex b u e
  · rw [List.getElem?_set] at e10
    by_cases hj : n = m
    · rw [if_pos hj] at e10
      split at e10
      · cases e10
        rw [← hj, hn] at e9
        cases e9
        exact ⟨e3, r⟩
      · cases e10
    · rw [if_neg hj] at e10
      obtain ⟨q1, q2⟩ := k.cells.at_ m b q e9 e10
      exact ⟨q1, q2.move (.refl w) (upd_ne fun z => hj (k.cells.nd n m a hn (by rw [← z]; exact e9)))⟩
  · rw [upd_ne (fun z => q2 (by rw [z]; exact List.mem_of_getElem? hn))]
    exact q1
  · by_cases hb : b = a
    · rw [hb, upd_same]
      exact fun z => nomatch z
    · rw [upd_ne hb]
      exact q
end
abbrev MS := Envr → Sto → Out
def PostS (g : Gam) (W : WX) (w0 : Wd) (H0 : Hp) (w : Wd) (Dn : Ends) : Out → Prop
  | .stuck => False
  | .nx e S => ∀ w' H' σ' O', StR g w0 H0 w' H' σ' e S O' → w.le w' → Dn.nx σ' H'
  | .bk e S => ∀ w' H' σ' O', StR g w0 H0 w' H' σ' e S O' → w.le w' → Dn.bk σ' H'
  | .ct e S => ∀ w' H' σ' O', StR g w0 H0 w' H' σ' e S O' → w.le w' → Dn.ct σ' H'
  | .rt r S => ∀ w' H' v, Ok g w' H' S → Frame w0 H0 w' H' → RetR g w' H0 H' r v → Dn.rt v H'
  | .exc c p e S => ∀ w' H' σ' O' cls dd, StR g w0 H0 w' H' σ' e S O' → w.le w' → ExcR g w' H' c p cls dd → W cls dd σ' H'
def SimS (g : Gam) (W : WX) (t : TS) (m : MS) : Prop := ∀ w0 H0 w H σ env S O (Dn : Ends), StR g w0 H0 w H σ env S O → PostS g W w0 H0 w Dn (m env S) → t Dn σ H
structure SS (X : Cx) (Y : Gam) (W : WX) (st : Stmt) (t : TS) (m : MS) : Prop where
  ps : PS X st t
  sim : SimS Y W t m
structure SB (X : Cx) (Y : Gam) (W : WX) (st : List Stmt) (t : TS) (m : MS) : Prop where
  pss : PSs X st t
  sim : SimS Y W t m
theorem PostS.mono {g : Gam} {W : WX} {w0 w w1 : Wd} {H0 : Hp} {Dn : Ends} {o : Out} (h : PostS g W w0 H0 w Dn o) (l : w.le w1) : PostS g W w0 H0 w1 Dn o := by
  cases o with
  | stuck => exact h
  | nx e S => exact fun w' H' σ' O' st l' => h w' H' σ' O' st (l.trans l')
  | bk e S => exact fun w' H' σ' O' st l' => h w' H' σ' O' st (l.trans l')
  | ct e S => exact fun w' H' σ' O' st l' => h w' H' σ' O' st (l.trans l')
  | rt r S => exact h
  | exc c p e S => exact fun w' H' σ' O' cls dd st l' => h w' H' σ' O' cls dd st (l.trans l')
def R.out {α : Type} (r : R α) (env : Envr) (f : α → Sto → Out) : Out := match r with
  | .stuck => .stuck
  | .exc c p s => .exc c p env s
  | .ok a s => f a s
theorem PostS.out {g : Gam} {W : WX} {w0 w : Wd} {H0 : Hp} {σ : L2.St} {env : Envr} {O : List (Option Addr)} {Dn : Ends} {α : Type} {r : R α} {f : α → Sto → Out} (h : PostS g W w0 H0 w Dn (r.out env f)) :
    PostX g W w0 H0 w σ env O r (fun a S w' _ => PostS g W w0 H0 w' Dn (f a S)) := by
  cases r with
  | stuck => exact h
  | exc c p s => exact fun w' H' cls dd st l x => h w' H' σ O cls dd st l x
  | ok a s => exact fun w' H' st l => PostS.mono (show PostS g W w0 H0 w Dn (f a s) from h) l
section
variable {X : Cx} {Y : Gam} {W : WX} {e a b c : Expr} {es rest : List Expr} {ta tb te : TE} {tt tu : TT} {ma mb me : ME} {mt mu : MT} {mf : MF} {t : TA} {m : MA} {pos : Pos} {s : Stmt} {ss : List Stmt} {t1 t2 : TS} {m1 m2 : MS}
def sNil : MS := fun env S => .nx env S
def sSeq (a b : MS) : MS := fun env S => match a env S with
  | .nx e S1 => b e S1
  | o => o
theorem b_nil : SB X Y W [] tNext sNil := ⟨pss_nil, fun w0 H0 w H σ env S O Dn st p => p w H σ O st (.refl w)⟩
theorem b_cons (h1 : SS X Y W s t1 m1) (h2 : SB X Y W ss t2 m2) : SB X Y W (s :: ss) (tSeq t1 t2) (sSeq m1 m2) := ⟨pss_cons h1.ps h2.pss, fun w0 H0 w H σ env S O Dn st p => by
  refine h1.sim w0 H0 w H σ env S O { Dn with nx := t2 Dn } st ?_
  unfold sSeq at p
  cases q : m1 env S with
  | stuck => rw [q] at p; exact p
  | bk e S => rw [q] at p; exact p
  | ct e S => rw [q] at p; exact p
  | rt r S => rw [q] at p; exact p
  | exc c p' e S => rw [q] at p; exact p
  | nx e1 S1 =>
    rw [q] at p
    exact fun w' H' σ' O' st' l' => h2.sim w0 H0 w' H' σ' e1 S1 O' Dn st' (p.mono l')⟩
theorem b_one (h1 : SS X Y W s t1 m1) : SB X Y W [s] t1 m1 := ⟨pss_one h1.ps, h1.sim⟩
def sExpr (me : ME) : MS := fun env S => (me env S).out env fun _ S1 => .nx env S1
theorem t_expr (h : SE X Y W e te me) (hs : swapsWith e none pos.line X.env = pure false := by rfl) : SS X Y W (.Expr e pos) (tDrop te) (sExpr me) := ⟨ps_expr h.pe hs, fun w0 H0 w H σ env S O Dn st p =>
  h.sim w0 H0 w H σ env S O _ st ((PostS.out p).imp fun d S1 w1 H1 st1 l1 p1 v r => p1 w1 H1 σ O st1 (.refl w1))⟩
def sRet (me : ME) : MS := fun env S => (me env S).out env fun d S1 => .rt (.val d) S1
theorem t_ret (h : SE X Y W e te me) : SS X Y W (.Return (some e) pos) (tRet te) (sRet me) := ⟨ps_ret h.pe, fun w0 H0 w H σ env S O Dn st p =>
  h.sim w0 H0 w H σ env S O _ st ((PostS.out p).imp fun d S1 w1 H1 st1 l1 p1 v r => p1 w1 H1 v st1.ok st1.fr r)⟩
def sRetF (mf : MF) : MS := fun env S => (mf env S).out env fun c S1 => .rt (.own c) S1
theorem t_retF (h : SF X Y W e te mf) : SS X Y W (.Return (some e) pos) (tRet te) (sRetF mf) := ⟨ps_ret h.pe, fun w0 H0 w H σ env S O Dn st p =>
  h.sim w0 H0 w H σ env S O _ st ((PostS.out p).imp fun d S1 w1 H1 st1 l1 p1 v r => p1 w1 H1 _ st1.ok st1.fr ⟨v, rfl, r.n0, r.ng, r.nr, r.at_⟩)⟩
def sRetO (i : Nat) : MS := fun env S => match env[i]? with
  | some (.o c) => .rt (.own c) S
  | some (.v d) => .rt (.val d) S
  | _ => .stuck
theorem t_retO (i : Nat) {x : Str} {p : Pos} (hN : X.N[i]? = some x := by rfl) (hv : Vis X.env.scope x := by first | exact Or.inl rfl | exact Or.inr (Or.inl rfl) | exact Or.inr (Or.inr rfl)) (hd : (x == ("__debug__" : Str)) = false := by decide)
    (hcd : (x == ("__classdict__" : Str)) = false := by decide) : SS X Y W (.Return (some (.Name x p)) pos) (tRet (tVar i)) (sRetO i) := ⟨ps_ret (pv i hN hv hd hcd), fun w0 H0 w H σ env S O Dn st p => by
  unfold sRetO at p
  split at p
  · rename_i c e
    obtain ⟨q, e1, e2, e3, e4, e5, e6, hi⟩ := st.own_at e
    exact ⟨_, e1, p w H _ st.ok st.fr ⟨q, rfl, e5, e3, e6, e4⟩⟩
  · rename_i d e
    exact sim_var (W := W) w0 H0 w H σ env S O Dn.rt st (by
      unfold eV
      rw [e]
      exact fun w' H' st' l' v r => p w' H' v st'.ok st'.fr r)
  · exact p.elim⟩
def sIf (c : MT) (a b : MS) : MS := fun env S => (c env S).out env fun k S1 => if k = true then a env S1 else b env S1
theorem t_if {x y : List Stmt} (hc : SC X Y W c tt mt) (ha : SB X Y W x t1 m1) (hb : SB X Y W y t2 m2) : SS X Y W (.If c x y pos) (tIfS tt t1 t2) (sIf mt m1 m2) := ⟨ps_if hc.pt ha.pss hb.pss, fun w0 H0 w H σ env S O Dn st p =>
  hc.sim w0 H0 w H σ env S O _ st ((PostS.out p).imp fun k S1 w1 H1 st1 l1 p1 => by
    cases k with
    | true =>
      simp only [if_true] at p1 ⊢
      exact ha.sim w0 H0 w1 H1 σ env S1 O Dn st1 p1
    | false =>
      simp only [Bool.false_eq_true, if_false] at p1 ⊢
      exact hb.sim w0 H0 w1 H1 σ env S1 O Dn st1 p1)⟩
abbrev MG := D → Envr → Option Envr
def Slots (is : List Nat) (σ σ' : L2.St) : Prop := σ'.length = σ.length ∧ ∀ k, k ∉ is → σ'[k]? = σ[k]?
theorem Slots.refl {is : List Nat} (σ : L2.St) : Slots is σ σ := ⟨rfl, fun _ _ => rfl⟩
theorem Slots.set {i : Nat} {is : List Nat} {x : Option V} (σ : L2.St) (h : i ∈ is) : Slots is σ (σ.set i x) := ⟨List.length_set, fun k hk => by
  rw [List.getElem?_set_ne]
  intro z
  exact hk (z ▸ h)⟩
theorem Slots.trans {is : List Nat} {a b c : L2.St} (x : Slots is a b) (y : Slots is b c) : Slots is a c := ⟨y.1.trans x.1, fun k h => (y.2 k h).trans (x.2 k h)⟩
theorem Slots.mono {is js : List Nat} {a b : L2.St} (x : Slots is a b) (h : ∀ i ∈ is, i ∈ js) : Slots js a b := ⟨x.1, fun k hk => x.2 k fun z => hk (h k z)⟩
def SimG (g : Gam) (is : List Nat) (t : TG) (m : MG) : Prop := ∀ w0 H0 w H σ env S O d v (Q : L2.St → Hp → Prop) e, StR g w0 H0 w H σ env S O → Rep g w d v → m d env = some e → (∀ σ' O', StR g w0 H0 w H σ' e S O' → Slots is σ σ' → Q σ' H) → t v σ H Q
structure SG (X : Cx) (Y : Gam) (is : List Nat) (e : Expr) (t : TG) (m : MG) : Prop where
  pg : PG X e t
  sim : SimG Y is t m
abbrev MGs := List D → Envr → Option Envr
def SimGs (g : Gam) (is : List Nat) (t : TGs) (m : MGs) : Prop := ∀ w0 H0 w H σ env S O d v (Q : L2.St → Hp → Prop) e, StR g w0 H0 w H σ env S O → RepL g w d v → m d env = some e → (∀ σ' O', StR g w0 H0 w H σ' e S O' → Slots is σ σ' → Q σ' H) → t v σ H Q
structure SGs (X : Cx) (Y : Gam) (is : List Nat) (e : List Expr) (t : TGs) (m : MGs) : Prop where
  pg : PGs X e t
  sim : SimGs Y is t m
  len : ∀ ds env e', m ds env = some e' → ds.length = e.length
def gN (i : Nat) : MG := fun d env => some (env.set i (.v d))
theorem g_name {i : Nat} {x : Str} (hN : X.N.Nodup) (hi : X.N[i]? = some x) (hx : Loc X.env.scope x) (hf : X.fn x = true ∨ X.env.scope.names.lookup x = some .local := by first | exact .inl rfl | exact .inr rfl | assumption) : SG X Y [i] (.Name x pos) (gName i) (gN i) :=
  ⟨pg_name hN hi hx hf, fun w0 H0 w H σ env S O d v Q e st r h q => by
    cases h
    exact q _ _ (st.set_v i r) (Slots.set σ (by simp))⟩
def gN0 : MGs := fun ds env => match ds with
  | [] => some env
  | _ => none
def gNC (a : MG) (b : MGs) : MGs := fun ds env => match ds with
  | d :: r => (a d env).bind fun e => b r e
  | _ => none
theorem gs_nil : SGs X Y [] [] gNil gN0 := ⟨pgs_nil, fun w0 H0 w H σ env S O d v Q e st r h q => by
  unfold gN0 at h
  split at h
  · cases h
    unfold RepL at r
    exact ⟨r, q _ _ st (Slots.refl σ)⟩
  · simp at h, fun ds env e' h => by
  unfold gN0 at h
  split at h
  · rfl
  · simp at h⟩
theorem gs_cons {is js : List Nat} {tg : TG} {tgs : TGs} {mg : MG} {mgs : MGs} (h1 : SG X Y is e tg mg) (h2 : SGs X Y js es tgs mgs) (hs : (assignEach (e :: es) X.env).map (·.2) = assign e X.env :: (assignEach es X.env).map (·.2) := by rfl) : SGs X Y (is ++ js) (e :: es) (gCons tg tgs) (gNC mg mgs) :=
  ⟨pgs_cons h1.pg h2.pg hs, fun w0 H0 w H σ env S O d v Q e' st r h q => by
    unfold gNC at h
    split at h
    · rename_i d1 dr
      unfold RepL at r
      obtain ⟨v1, vr, ev, r1, r2⟩ := r
      cases z : mg d1 env with
      | none => rw [z] at h; cases h
      | some e1 =>
        rw [z] at h
        have h : mgs dr e1 = some e' := h
        exact ⟨v1, vr, ev, h1.sim w0 H0 w H σ env S O d1 v1 _ e1 st r1 z fun σ1 O1 st1 s1 => h2.sim w0 H0 w H σ1 e1 S O1 dr vr Q e' st1 r2 h fun σ2 O2 st2 s2 => q σ2 O2 st2 ((s1.mono fun i hi => List.mem_append_left _ hi).trans (s2.mono fun i hi => List.mem_append_right _ hi))⟩
    · simp at h, fun ds env e' h => by
    unfold gNC at h
    split at h
    · rename_i d1 dr
      cases z : mg d1 env with
      | none => rw [z] at h; cases h
      | some e1 =>
        rw [z] at h
        have h : mgs dr e1 = some e' := h
        rw [List.length_cons, List.length_cons, h2.len dr e1 e' h]
    · cases h⟩
def gT (b : MGs) : MG := fun d env => match d with
  | .tup ds => b ds env
  | _ => none
theorem g_tup {is : List Nat} {k : Nat} {tgs : TGs} {mgs : MGs} (h : SGs X Y is es tgs mgs) (hK : X.K = Y.K := by rfl) (hc : X.calm = true := by rfl) (hn : (assignEach es X.env).length = es.length := by rfl) (hst : (assignEach es X.env).findIdx? (·.1) = none := by rfl) : SG X Y is (.Tuple es k pos) (gTup Y.K es.length tgs) (gT mgs) :=
  ⟨hK ▸ pg_tup hc h.pg hn hst, fun w0 H0 w H σ env S O d v Q e' st r h' q => by
    unfold gT at h'
    split at h'
    · rename_i ds
      unfold Rep at r
      obtain ⟨a, vs, e1, e2, e3⟩ := r
      exact ⟨a, vs, e1, same_sqT st.ok.ex e2.sq, by rw [← e3.len]; exact h.len ds env e' h', h.sim w0 H0 w H σ env S O ds vs Q e' st e3 h' q⟩
    · cases h'⟩
def sAsg (me : ME) (mg : MG) : MS := fun env S => (me env S).out env fun d S1 => match mg d env with
  | some e => .nx e S1
  | none => .stuck
theorem sim_asg {g : Gam} {is : List Nat} {tg : TG} {mg : MG} (he : SimE g W te me) (hg : SimG g is tg mg) : SimS g W (tAsg te tg) (sAsg me mg) := fun w0 H0 w H σ env S O Dn st p =>
  he w0 H0 w H σ env S O _ st ((PostS.out p).imp fun d S1 w1 H1 st1 l1 p1 v r => by
    cases z : mg d env with
    | none => rw [z] at p1; exact False.elim p1
    | some e1 =>
      rw [z] at p1
      exact hg w0 H0 w1 H1 σ env S1 O d v Dn.nx e1 st1 r z fun σ' O' st' _ => p1 w1 H1 σ' O' st' (.refl w1))
theorem t_set {i : Nat} {x : Str} {pos' : Pos} (hN : X.N.Nodup) (hi : X.N[i]? = some x) (hx : Loc X.env.scope x) (he : SE X Y W e te me) (hs : swapsWith e (some (.Name x pos')) pos.line X.env = pure false := by rfl) (hf : X.fn x = true ∨ X.env.scope.names.lookup x = some .local := by first | exact .inl rfl | exact .inr rfl | assumption) :
    SS X Y W (.Assign [.Name x pos'] e pos) (tAsg te (gName i)) (sAsg me (gN i)) := ⟨ps_set hN hi hx he.pe hs hf, sim_asg (is := [i]) he.sim fun w0 H0 w H σ env S O d v Q e st r h q => by
    cases h
    exact q _ _ (st.set_v i r) (Slots.set σ (by simp))⟩
def sOwn (i : Nat) (mf : MF) : MS := fun env S => (mf env S).out env fun c S1 => if i < env.length then .nx (env.set i (.o c)) S1 else .stuck
theorem sim_own {g : Gam} {i : Nat} (h : SimF g W te mf) : SimS g W (tAsg te (gName i)) (sOwn i mf) := fun w0 H0 w H σ env S O Dn st p =>
  h w0 H0 w H σ env S O _ st ((PostS.out p).imp fun c S1 w1 H1 st1 l1 p1 q ow => by
    split at p1
    · rename_i hi
      exact p1 w1 H1 _ _ (st1.set_o i ow (by rw [← st1.l1]; exact hi)) (.refl w1)
    · exact False.elim p1)
theorem t_own {i : Nat} {x : Str} {pos' : Pos} (hN : X.N.Nodup) (hi : X.N[i]? = some x) (hx : Loc X.env.scope x) (he : SF X Y W e te mf) (hs : swapsWith e (some (.Name x pos')) pos.line X.env = pure false := by rfl) (hf : X.fn x = true ∨ X.env.scope.names.lookup x = some .local := by first | exact .inl rfl | exact .inr rfl | assumption) :
    SS X Y W (.Assign [.Name x pos'] e pos) (tAsg te (gName i)) (sOwn i mf) := ⟨ps_set hN hi hx he.pe hs hf, sim_own he.sim⟩
def sPar (i j : Nat) (m : MA) : MS := fun env S => (m env S).out env fun ds S1 => match ds with
  | [d1, d2] => .nx ((env.set i (.v d1)).set j (.v d2)) S1
  | _ => .stuck
end
end Mm
namespace Mm
open PySem L2
def ItR (g : Gam) (w1 : Wd) (J : It) (ds : List D) : Prop := ∀ w H, w1.le w → Same w.G H →
  (∀ (i : Nat) d, ds[i]? = some d → J.go i H ∧ ∀ x H', J.yld i H x H' → ∃ w', Grow w H w' H' ∧ Rep g w' d x) ∧ J.stop ds.length H
abbrev MI := Envr → Sto → R (List D)
def SimI (g : Gam) (W : WX) (wi : TI) (m : MI) : Prop := ∀ w0 H0 w H σ env S O (Q : It → Hp → Prop), StR g w0 H0 w H σ env S O →
  PostX g W w0 H0 w σ env O (m env S) (fun ds _ w' H' => ∀ J, ItR g w' J ds → Q J H') → wi σ H Q
structure SI (X : Cx) (Y : Gam) (W : WX) (tg e : Expr) (wi : TI) (m : MI) : Prop where
  pi : PI X tg e wi
  sim : SimI Y W wi m
section
variable {X : Cx} {Y : Gam} {W : WX} {e a b c tg : Expr} {es rest : List Expr} {ta tb te : TE} {tt tu : TT} {ma mb me : ME} {mt mu : MT} {mf : MF} {t : TA} {m : MA} {pos : Pos} {s : Stmt} {ss : List Stmt} {t1 t2 : TS} {m1 m2 : MS} {wi : TI} {mi : MI}
def forL (g : MG) (b : MS) : List D → MS
  | [], env, S => .nx env S
  | d :: ds, env, S => match g d env with
    | none => .stuck
    | some e1 => match b e1 S with
      | .nx e S1 => forL g b ds e S1
      | .ct e S1 => forL g b ds e S1
      | .bk e S1 => .nx e S1
      | o => o
def sFor (mi : MI) (g : MG) (b : MS) : MS := fun env S => (mi env S).out env fun ds S1 => forL g b ds env S1
theorem sim_for {g : Gam} {is : List Nat} {tg : TG} {mg : MG} (hi : SimI g W wi mi) (hg : SimG g is tg mg) (hb : SimS g W t1 m1) : SimS g W (tFor wi tg t1) (sFor mi mg m1) := fun w0 H0 w H σ env S O Dn st p =>
  hi w0 H0 w H σ env S O _ st ((PostS.out p).imp fun ds S1 w1 H1 st1 l1 p1 J hJ => by
    refine ⟨fun i m σ H => m + i = ds.length ∧ ∃ w env S O, StR g w0 H0 w H σ env S O ∧ w1.le w ∧ PostS g W w0 H0 w Dn (forL mg m1 (ds.drop i) env S), ⟨ds.length, by omega, w1, env, S1, O, st1, .refl w1, p1⟩, ?_⟩
    rintro i k σ2 H2 ⟨hk, w2, env2, S2, O2, st2, l2, p2⟩
    obtain ⟨hgo, hstop⟩ := hJ w2 H2 l2 st2.ok.ex
    by_cases hlt : i < ds.length
    · have ed : ds.drop i = ds[i] :: ds.drop (i + 1) := List.drop_eq_getElem_cons hlt
      obtain ⟨go, yld⟩ := hgo i ds[i] (List.getElem?_eq_getElem hlt)
      refine .inr ⟨go, fun σ' H' => ∃ w env S O, StR g w0 H0 w H' σ' env S O ∧ w1.le w ∧ PostS g W w0 H0 w Dn (forL mg m1 (ds.drop (i + 1)) env S), fun σ' H' h' => ⟨k - 1, by omega, by omega, h'⟩, fun x H' hy => ?_⟩
      obtain ⟨w3, gr, rx⟩ := yld x H' hy
      have st3 := st2.grow gr
      have l3 := gr.le st2.ok
      rw [ed] at p2
      unfold forL at p2
      cases z : mg ds[i] env2 with
      | none => rw [z] at p2; exact False.elim p2
      | some e1 =>
        rw [z] at p2
        refine hg w0 H0 w3 H' σ2 env2 S2 O2 ds[i] x _ e1 st3 rx z fun σ4 O4 st4 _ => ?_
        refine hb w0 H0 w3 H' σ4 e1 S2 O4 _ st4 ?_
        have p2 : PostS g W w0 H0 w2 Dn (match m1 e1 S2 with
          | .nx e S1 => forL mg m1 (ds.drop (i + 1)) e S1
          | .ct e S1 => forL mg m1 (ds.drop (i + 1)) e S1
          | .bk e S1 => .nx e S1
          | o => o) := p2
        cases y : m1 e1 S2 with
        | stuck => rw [y] at p2; exact p2
        | nx e S5 => rw [y] at p2; exact fun w' H' σ' O' st' l' => ⟨w', e, S5, O', st', (l2.trans l3).trans l', p2.mono (l3.trans l')⟩
        | ct e S5 => rw [y] at p2; exact fun w' H' σ' O' st' l' => ⟨w', e, S5, O', st', (l2.trans l3).trans l', p2.mono (l3.trans l')⟩
        | bk e S5 => rw [y] at p2; exact fun w' H' σ' O' st' l' => p2 w' H' σ' O' st' (l3.trans l')
        | rt r S5 => rw [y] at p2; exact p2
        | exc c q e S5 => rw [y] at p2; exact fun w' H' σ' O' cls dd st' l' x => p2 w' H' σ' O' cls dd st' (l3.trans l') x
    · have ei : i = ds.length := by omega
      refine .inl ⟨by rw [ei]; exact hstop, ?_⟩
      have ed : ds.drop i = [] := by rw [ei]; exact List.drop_length
      rw [ed] at p2
      exact p2 w2 H2 σ2 O2 st2 (.refl w2))
theorem t_for {tg iter : Expr} {body : List Stmt} {is : List Nat} {g : TG} {mg : MG} (hp : PassesOwn (model X.prog X.w) X.A X.env X.xe) (hi : SI X Y W tg iter wi mi) (hg : SG X Y is tg g mg) (hb : SB X Y W body t1 m1) (hc : X.calm = true := by rfl)
    (hs : ∀ x, foldedSetIterable iter X.env x = pure x := by intro _; rfl) : SS X Y W (.For tg iter body [] pos) (tFor wi g t1) (sFor mi mg m1) := ⟨ps_for hp hc hi.pi hg.pg hb.pss hs, sim_for hi.sim hg.sim hb.sim⟩
def whL (c : MT) (b : MS) : Nat → MS
  | 0, _, _ => .stuck
  | n + 1, env, S => (c env S).out env fun k S1 => if k = true then (match b env S1 with
      | .nx e S2 => whL c b n e S2
      | .ct e S2 => whL c b n e S2
      | .bk e S2 => .nx e S2
      | o => o) else .nx env S1
theorem sim_while {g : Gam} {n : Nat} (hc : SimT g W tt mt) (hb : SimS g W t1 m1) : SimS g W (tWhile tt t1) (whL mt m1 n) := fun w0 H0 w H σ env S O Dn st p => by
  refine ⟨fun m σ H => ∃ w2 env S O, StR g w0 H0 w2 H σ env S O ∧ w.le w2 ∧ PostS g W w0 H0 w2 Dn (whL mt m1 m env S), ⟨n, w, env, S, O, st, .refl w, p⟩, ?_⟩
  rintro m σ2 H2 ⟨w2, env2, S2, O2, st2, l2, p2⟩
  cases m with
  | zero => exact False.elim p2
  | succ m =>
    unfold whL at p2
    refine hc w0 H0 w2 H2 σ2 env2 S2 O2 _ st2 ((PostS.out p2).imp fun k S3 w3 H3 st3 l3 p3 => ?_)
    cases k with
    | false =>
      simp only [Bool.false_eq_true, if_false] at p3 ⊢
      exact p3 w3 H3 σ2 O2 st3 (.refl w3)
    | true =>
      simp only [if_true] at p3 ⊢
      refine ⟨fun σ' H' => ∃ w4 env S O, StR g w0 H0 w4 H' σ' env S O ∧ w.le w4 ∧ PostS g W w0 H0 w4 Dn (whL mt m1 m env S), fun σ' H' h' => ⟨m, Nat.lt_succ_self _, h'⟩, ?_⟩
      refine hb w0 H0 w3 H3 σ2 env2 S3 O2 _ st3 ?_
      cases y : m1 env2 S3 with
      | stuck => rw [y] at p3; exact p3
      | nx e S5 => rw [y] at p3; exact fun w' H' σ' O' st' l' => ⟨w', e, S5, O', st', (l2.trans l3).trans l', PostS.mono p3 l'⟩
      | ct e S5 => rw [y] at p3; exact fun w' H' σ' O' st' l' => ⟨w', e, S5, O', st', (l2.trans l3).trans l', PostS.mono p3 l'⟩
      | bk e S5 => rw [y] at p3; exact fun w' H' σ' O' st' l' => p3 w' H' σ' O' st' l'
      | rt r S5 => rw [y] at p3; exact p3
      | exc c q e S5 => rw [y] at p3; exact fun w' H' σ' O' cls dd st' l' x => p3 w' H' σ' O' cls dd st' l' x
theorem t_while (n : Nat) {body : List Stmt} (hp : PassesOwn (model X.prog X.w) X.A X.env X.xe) (hc : SC X Y W c tt mt) (hb : SB X Y W body t1 m1) : SS X Y W (.While c body [] pos) (tWhile tt t1) (whL mt m1 n) := ⟨ps_while hp hc.pt hb.pss, sim_while hc.sim hb.sim⟩
def hideS : Sl → Sl
  | .o _ => .no
  | s => s
def wipeE (env : Envr) : List Nat → Envr
  | [] => env.map hideS
  | v :: vs => (wipeE env vs).set v .no
theorem wipeE_len (env : Envr) : ∀ vs : List Nat, (wipeE env vs).length = env.length
  | [] => List.length_map _
  | v :: vs => by
    unfold wipeE
    rw [List.length_set, wipeE_len env vs]
theorem wipe_get (σ : L2.St) : ∀ (vs : List Nat) (k : Nat), k ∉ vs → (wipe σ vs)[k]? = σ[k]?
  | [], _, _ => rfl
  | v :: vs, k, h => by
    unfold wipe
    rw [List.getElem?_set_ne (fun z => h (by rw [z]; exact List.mem_cons_self))]
    exact wipe_get σ vs k fun z => h (List.mem_cons_of_mem _ z)
theorem wipe_in (σ : L2.St) : ∀ (vs : List Nat) (k : Nat), k ∈ vs → k < σ.length → (wipe σ vs)[k]? = some none
  | v :: vs, k, h, l => by
    unfold wipe
    by_cases e : v = k
    · rw [e, List.getElem?_set_self (by rw [wipe_length]; exact l)]
    · rw [List.getElem?_set_ne e]
      rcases List.mem_cons.mp h with z | z
      · exact absurd z.symm e
      · exact wipe_in σ vs k z l
theorem wipe_slots {is : List Nat} {a b : L2.St} (h : Slots is a b) {vs : List Nat} (hv : ∀ i ∈ is, i ∈ vs) : wipe b vs = wipe a vs := by
  refine List.ext_getElem? fun k => ?_
  by_cases hk : k ∈ vs
  · by_cases hl : k < a.length
    · rw [wipe_in a vs k hk hl, wipe_in b vs k hk (by rw [h.1]; exact hl)]
    · have h1 := h.1
      rw [List.getElem?_eq_none (l := wipe b vs) (by rw [wipe_length]; omega), List.getElem?_eq_none (l := wipe a vs) (by rw [wipe_length]; omega)]
  · rw [wipe_get b vs k hk, wipe_get a vs k hk]
    exact h.2 k fun z => hk (hv k z)
theorem wipe_wipe {vs : List Nat} (σ : L2.St) : wipe (wipe σ vs) vs = wipe σ vs := wipe_slots (is := vs) ⟨wipe_length σ vs, fun k hk => wipe_get σ vs k hk⟩ fun _ h => h
theorem wipeE_get (env : Envr) : ∀ (vs : List Nat) (k : Nat) (s : Sl), (wipeE env vs)[k]? = some s → s = .no ∨ (∃ d, s = .v d ∧ env[k]? = some (.v d) ∧ k ∉ vs)
  | [], k, s, h => by
    unfold wipeE at h
    rw [List.getElem?_map] at h
    cases e : env[k]? with
    | none => rw [e] at h; cases h
    | some s' =>
      rw [e] at h
      cases s' with
      | no => exact .inl (Option.some.inj h).symm
      | o c => exact .inl (Option.some.inj h).symm
      | v d => exact .inr ⟨d, (Option.some.inj h).symm, rfl, by simp⟩
  | v :: vs, k, s, h => by
    unfold wipeE at h
    rw [List.getElem?_set] at h
    split at h
    · split at h
      · exact .inl (Option.some.inj h).symm
      · cases h
    · rename_i hne
      rcases wipeE_get env vs k s h with z | ⟨d, z1, z2, z3⟩
      · exact .inl z
      · exact .inr ⟨d, z1, z2, fun q => by
          rcases List.mem_cons.mp q with q | q
          · exact hne q.symm
          · exact z3 q⟩
theorem StR.hide {g : Gam} {w0 w : Wd} {H0 H : Hp} {σ : L2.St} {env : Envr} {S : Sto} {O : List (Option Addr)} (st : StR g w0 H0 w H σ env S O) (vs : List Nat) : StR g w H w H (wipe σ vs) (wipeE env vs) S (List.replicate σ.length none) := by
  have nn : ∀ (i : Nat) (p : Addr), (List.replicate σ.length (none : Option Addr))[i]? ≠ some (some p) := fun i p e => by
    rw [List.getElem?_replicate] at e
    split at e <;> cases e
  refine ⟨st.ok, .refl w H, by rw [wipeE_len, wipe_length]; exact st.l1, by rw [List.length_replicate, wipe_length], fun i s x o e1 e2 e3 => ?_, fun i j p e _ => absurd e (nn i p), fun i p e => absurd e (nn i p)⟩
  have eo : o = none := by
    rw [List.getElem?_replicate] at e3
    split at e3
    · exact (Option.some.inj e3).symm
    · cases e3
  rcases wipeE_get env vs i s e1 with z | ⟨d, z1, z2, z3⟩
  · rw [z]
    exact eo
  · rw [z1]
    rw [wipe_get σ vs i z3] at e2
    have hO : i < O.length := by
      rw [st.l2, ← st.l1]
      exact (List.getElem?_eq_some_iff.mp z2).1
    obtain ⟨_, v, q1, q2⟩ := st.sl i (.v d) x O[i] z2 e2 (List.getElem?_eq_getElem hO)
    exact ⟨eo, v, q1, q2⟩
def W0 : WX := fun _ _ _ _ => False
def lcR (g : MG) (tt : MT) (te : ME) (env : Envr) : List D → Sto → R (List D)
  | [], S => .ok [] S
  | d :: ds, S => match g d env with
    | none => .stuck
    | some e1 => match tt e1 S with
      | .ok true S1 => (match te e1 S1 with
        | .ok y S2 => (lcR g tt te env ds S2).bind fun ys S3 => .ok (y :: ys) S3
        | _ => .stuck)
      | .ok false S1 => lcR g tt te env ds S1
      | _ => .stuck
theorem lcR_noexc {g : MG} {tt : MT} {te : ME} {env : Envr} : ∀ (ds : List D) (S : Sto) (c : Str) (p : Option D) (s : Sto), lcR g tt te env ds S ≠ .exc c p s
  | [], S, c, p, s, h => by
    unfold lcR at h
    cases h
  | d :: ds, S, c, p, s, h => by
    unfold lcR at h
    split at h
    · cases h
    · split at h
      · split at h
        · rename_i y S2 _
          cases q : lcR g tt te env ds S2 with
          | stuck => rw [q] at h; cases h
          | exc c' p' s' => exact lcR_noexc ds S2 c' p' s' q
          | ok ys s' => rw [q] at h; cases h
        · cases h
      · exact lcR_noexc ds _ c p s h
      · cases h
theorem Frame.upd_new {w0 w : Wd} {H0 H : Hp} {p : Addr} {o : HO} (f : Frame w0 H0 w H) (h : H0 p = none) : Frame w0 H0 w (upd H p o) :=
  ⟨f.le, fun a x e n t => by
    rw [upd_ne (fun z => by rw [z, h] at e; cases e)]
    exact f.keep a x e n t, f.newG, f.rho, fun a e => by
    by_cases ha : a = p
    · rw [ha, upd_same]
      exact fun z => nomatch z
    · rw [upd_ne ha]
      exact f.dom a e, fun a ps e => by
    rw [upd_ne (fun z => by rw [z, h] at e; cases e)]
    exact f.tb a ps e, fun a x u e => by
    rw [upd_ne (fun z => by rw [z, h] at e; cases e)]
    exact f.fz a x u e⟩
theorem ok_upd {g : Gam} {w : Wd} {H : Hp} {S : Sto} {p : Addr} {xs : List V} {o : HO} (k : Ok g w H S) (e : H p = some (.lst xs)) (hg : w.G p = none) (hr : p ∉ w.rho) : Ok g w (upd H p o) S := by
  refine ⟨fun b u q => ?_, ⟨k.cells.nd, k.cells.len, fun m b q e9 e10 => ?_⟩, tabs_upd k.tabs (fun ps z => by rw [e] at z; cases z) (fun φ _ z => by rw [e] at z; cases z), k.notab⟩
  · rw [upd_ne (fun z => by rw [z, hg] at q; cases q)]
    exact k.ex b u q
  · obtain ⟨q1, q2⟩ := k.cells.at_ m b q e9 e10
    exact ⟨q1, q2.move (.refl w) (upd_ne fun z => hr (by rw [← z]; exact List.mem_of_getElem? e9))⟩
def fin (ys : List D) (S : Sto) : R Cell := if szB ys.length then .ok (.lst ys) S else .stuck
def fLc (mi : MI) (g : MG) (tt : MT) (te : ME) (vs : List Nat) : MF := fun env S => (mi env S).bind fun ds S1 => (lcR g tt te (wipeE env vs) ds S1).bind fin
theorem sim_lc {g : Gam} {is vs : List Nat} {tg : TG} {mg : MG} (hi : SimI g W wi mi) (hg : SimG g is tg mg) (hv : ∀ i ∈ is, i ∈ vs) (ht : SimT g W0 tt mt) (he : SimE g W0 te me) : SimF g W (tLc wi tg tt te vs) (fLc mi mg mt me vs) := fun w0 H0 w H σ env S O Q st p => by
  refine hi w0 H0 w H σ env S O _ st ((PostX.bind p).imp fun ds S1 w1 H1 st1 l1 p1 J hJ D hD => ?_)
  obtain ⟨o1, o2, o3, o4⟩ := st1.out hD
  refine ⟨fun i m H => m + i = ds.length ∧ ∃ w' S' acc accV, Frame w1 H1 w' H ∧ Ok g w' H S' ∧ H D = some (.lst accV) ∧ w'.G D = none ∧ D ∉ w'.rho ∧ RepL g w' acc accV ∧
    PostX g W w0 H0 w' σ env O ((lcR mg mt me (wipeE env vs) (ds.drop i) S').bind fun ys S3 => fin (acc ++ ys) S3) (fun c _ w' H' => ∀ p, OwnAt g w' H0 H' O c p → Q (.ref p) H'), ?_, ?_⟩
  · obtain ⟨k2, f2⟩ := ok_lay (o := .lst []) st1.ok hD nt_lst
    exact ⟨ds.length, by omega, w1, S1, [], [], f2, k2, upd_same, o2, o3, RepL.nil_, p1⟩
  · rintro i k H2 ⟨hk, w2, S2, acc, accV, f2, k2, e2, g2, r2, ra, p2⟩
    obtain ⟨hgo, hstop⟩ := hJ w2 H2 f2.le k2.ex
    have st2 : StR g w0 H0 w2 H2 σ env S2 O := st1.after f2 k2
    have stb : StR g w2 H2 w2 H2 (wipe σ vs) (wipeE env vs) S2 (List.replicate σ.length none) := st2.hide vs
    by_cases hlt : i < ds.length
    · have ed : ds.drop i = ds[i] :: ds.drop (i + 1) := List.drop_eq_getElem_cons hlt
      obtain ⟨go, yld⟩ := hgo i ds[i] (List.getElem?_eq_getElem hlt)
      refine .inr ⟨go, fun H => ∃ w' S' acc accV, Frame w1 H1 w' H ∧ Ok g w' H S' ∧ H D = some (.lst accV) ∧ w'.G D = none ∧ D ∉ w'.rho ∧ RepL g w' acc accV ∧
        PostX g W w0 H0 w' σ env O ((lcR mg mt me (wipeE env vs) (ds.drop (i + 1)) S').bind fun ys S3 => fin (acc ++ ys) S3) (fun c _ w' H' => ∀ p, OwnAt g w' H0 H' O c p → Q (.ref p) H'), fun H' h' => ⟨k - 1, by omega, by omega, h'⟩, fun x H' hy => ?_⟩
      obtain ⟨w3, gr, rx⟩ := yld x H' hy
      have st3 := stb.grow gr
      rw [ed] at p2
      unfold lcR at p2
      cases z : mg ds[i] (wipeE env vs) with
      | none => rw [z] at p2; exact False.elim p2
      | some e1 =>
        simp only [z] at p2
        refine hg w2 H2 w3 H' _ _ S2 _ ds[i] x _ e1 st3 rx z fun σ4 O4 st4 sl4 => ⟨?_, ?_⟩
        · rw [wipe_slots sl4 hv, wipe_wipe]
        · refine ht w2 H2 w3 H' σ4 e1 S2 O4 _ st4 ?_
          cases y : mt e1 S2 with
          | stuck => simp only [y] at p2; exact p2
          | exc c q s => simp only [y] at p2; exact False.elim p2
          | ok bb S5 =>
            intro w5 H5 st5 l5
            have keepD : ∀ {w6 : Wd} {H6 : Hp}, Frame w2 H2 w6 H6 → H6 D = some (.lst accV) ∧ w6.G D = none ∧ D ∉ w6.rho := fun {w6 H6} f6 =>
              ⟨f6.keep D _ e2 r2 nt_lst, (f6.newG D (by rw [e2]; exact fun z => nomatch z)).trans g2, fun q => by
                rcases f6.rho D q with z | z
                · exact r2 z
                · rw [e2] at z; cases z⟩
            cases bb with
            | false =>
              simp only [y] at p2
              simp only [Bool.false_eq_true, if_false]
              obtain ⟨q1, q2, q3⟩ := keepD st5.fr
              exact ⟨w5, S5, acc, accV, f2.trans st5.fr, st5.ok, q1, q2, q3, ra.mono st5.fr.le, PostX.mono p2 st5.fr.le⟩
            | true =>
              simp only [y] at p2
              simp only [if_true]
              refine he w2 H2 w5 H5 σ4 e1 S5 O4 _ st5 ?_
              cases u : me e1 S5 with
              | stuck => simp only [u] at p2; exact p2
              | exc c q s => simp only [u] at p2; exact False.elim p2
              | ok yv S6 =>
                simp only [u] at p2
                intro w6 H6 st6 l6 v6 r6
                obtain ⟨q1, q2, q3⟩ := keepD st6.fr
                have p3 : PostX g W w0 H0 w2 σ env O (((lcR mg mt me (wipeE env vs) (ds.drop (i + 1)) S6).bind fun ys S3 => R.ok (yv :: ys) S3).bind fun ys S3 => fin (acc ++ ys) S3) (fun c _ w' H' => ∀ p, OwnAt g w' H0 H' O c p → Q (.ref p) H') := p2
                have p4 : PostX g W w0 H0 w2 σ env O ((lcR mg mt me (wipeE env vs) (ds.drop (i + 1)) S6).bind fun ys S3 => fin ((acc ++ [yv]) ++ ys) S3) (fun c _ w' H' => ∀ p, OwnAt g w' H0 H' O c p → Q (.ref p) H') := by
                  cases q : lcR mg mt me (wipeE env vs) (ds.drop (i + 1)) S6 with
                  | stuck => rw [q] at p3; exact p3
                  | exc c a s => rw [q] at p3; exact p3
                  | ok ys s =>
                    rw [q] at p3
                    have p3 : PostX g W w0 H0 w2 σ env O (fin (acc ++ (yv :: ys)) s) _ := p3
                    show PostX g W w0 H0 w2 σ env O (fin ((acc ++ [yv]) ++ ys) s) _
                    rw [List.append_assoc]
                    exact p3
                have hsz : acc.length + 1 ≤ 100000 := by
                  cases q : lcR mg mt me (wipeE env vs) (ds.drop (i + 1)) S6 with
                  | stuck => rw [q] at p4; exact False.elim p4
                  | exc c a s => exact absurd q (lcR_noexc _ _ _ _ _)
                  | ok ys s =>
                    rw [q] at p4
                    have p4 : PostX g W w0 H0 w2 σ env O (fin ((acc ++ [yv]) ++ ys) s) _ := p4
                    unfold fin at p4
                    split at p4
                    · rename_i hz
                      have hz2 : ((acc ++ [yv]) ++ ys).length ≤ 100000 := of_decide_eq_true hz
                      simp only [List.length_append, List.length_cons, List.length_nil] at hz2
                      omega
                    · exact False.elim p4
                refine ⟨accV, q1, Nat.lt_of_lt_of_le (by rw [← ra.len]; omega) (by decide : 100000 ≤ sizeLine), ?_⟩
                have f7 := (f2.trans st6.fr).upd_new (o := .lst (accV ++ [v6])) hD
                have k7 := ok_upd (o := .lst (accV ++ [v6])) st6.ok q1 q2 q3
                exact ⟨w6, S6, acc ++ [yv], accV ++ [v6], f7, k7, upd_same, q2, q3, (ra.mono st6.fr.le).append_ (RepL.cons_ r6 RepL.nil_), PostX.mono p4 st6.fr.le⟩
    · have ei : i = ds.length := by omega
      refine .inl ⟨by rw [ei]; exact hstop, ?_⟩
      have ed : ds.drop i = [] := by rw [ei]; exact List.drop_length
      rw [ed] at p2
      have p2 : PostX g W w0 H0 w2 σ env O (fin (acc ++ []) S2) _ := p2
      rw [List.append_nil] at p2
      unfold fin at p2
      split at p2
      · exact p2 w2 H2 st2 (.refl w2) D ⟨o1, g2, r2, o4, ⟨accV, e2, ra⟩⟩
      · exact False.elim p2
end
end Mm
namespace Mm
open PySem L2
section
variable {X : Cx} {Y : Gam} {W : WX} {e a b c tg iter elt : Expr} {es rest ifs : List Expr} {ta tb te : TE} {tt tu : TT} {ma mb me : ME} {mt mu : MT} {mf : MF} {t : TA} {m : MA} {pos : Pos} {s : Stmt} {ss : List Stmt} {t1 t2 : TS} {m1 m2 : MS} {wi : TI} {mi : MI}
structure ST (X : Cx) (Y : Gam) (W : WX) (ifs : List Expr) (t : TT) (m : MT) : Prop where
  pts : PTs X ifs t
  sim : SimT Y W t m
def cYes : MT := fun _ S => .ok true S
theorem ts_nil : ST X Y W [] tYes cYes := ⟨pts_nil, fun w0 H0 w H σ env S O Q st p => p w H st (.refl w)⟩
theorem ts_one (h : SC X Y W c tt mt) : ST X Y W [c] tt mt := ⟨pts_one h.pt, h.sim⟩
variable {scope : Scope} {own : List (Str × Nat)} {is : List Nat} {g : TG} {mg : MG}
theorem f_lc (hN : X.N.Nodup) (hi : SI X Y W tg iter wi mi) (ok : BlkOk X.N X.env.scope scope own) (hg : ∀ (s : Shared) (H : Hp) (C : Addr) (cl : List (Str × Addr)) (fp : List Addr), SG (X.blk s H scope (compEnvC scope cl C X.env) fp) Y is tg g mg)
    (ht : ∀ (s : Shared) (H : Hp) (C : Addr) (cl : List (Str × Addr)) (fp : List Addr), ST (X.blk s H scope (compEnvC scope cl C X.env) fp) Y W0 ifs tt mt)
    (he : ∀ (s : Shared) (H : Hp) (C : Addr) (cl : List (Str × Addr)) (fp : List Addr), SE (X.blk s H scope (compEnvC scope cl C X.env) fp) Y W0 elt te me) (hv : ∀ i ∈ is, i ∈ own.map (·.2) := by decide) (hc : X.calm = true := by rfl) (hs : ∀ x, foldedSetIterable iter X.env x = pure x := by intro _; rfl) :
    SF X Y W (.ListComp elt [⟨tg, iter, ifs, 0⟩] scope pos) (tLc wi g tt te (own.map (·.2))) (fLc mi mg mt me (own.map (·.2))) :=
  ⟨pe_lc hc hN hi.pi ok (fun s H C cl fp => (hg s H C cl fp).pg) (fun s H C cl fp => (ht s H C cl fp).pts) (fun s H C cl fp => (he s H C cl fp).pe) hs,
    sim_lc hi.sim (hg X.s_0 X.H_0 0 [] []).sim hv (ht X.s_0 X.H_0 0 [] []).sim (he X.s_0 X.H_0 0 [] []).sim⟩
theorem ps_lc {i : Nat} {y : Str} {py spos : Pos} (hN : X.N.Nodup) (hy : X.N[i]? = some y) (hyl : X.env.scope.names.lookup y = some .local) (hsw : swapsWith (.ListComp elt [⟨tg, iter, ifs, 0⟩] scope pos) (some (.Name y py)) spos.line X.env = pure true)
    (hi : SI X Y W tg iter wi mi) (ok : BlkOk X.N X.env.scope scope own) (hg : ∀ (s : Shared) (H : Hp) (C : Addr) (cl : List (Str × Addr)) (fp : List Addr), SG (X.blk s H scope (compEnvC scope cl C X.env) fp) Y is tg g mg)
    (ht : ∀ (s : Shared) (H : Hp) (C : Addr) (cl : List (Str × Addr)) (fp : List Addr), ST (X.blk s H scope (compEnvC scope cl C X.env) fp) Y W0 ifs tt mt)
    (he : ∀ (s : Shared) (H : Hp) (C : Addr) (cl : List (Str × Addr)) (fp : List Addr), SE (X.blk s H scope (compEnvC scope cl C X.env) fp) Y W0 elt te me) (hc : X.calm = true) (hs : ∀ x, foldedSetIterable iter X.env x = pure x) :
    PS X (.Assign [.Name y py] (.ListComp elt [⟨tg, iter, ifs, 0⟩] scope pos) spos) (tAsg (tLc wi g tt te (own.map (·.2))) (gName i)) :=
  ps_setLc hc hN hy hyl hsw hi.pi ok (fun s H C cl fp => (hg s H C cl fp).pg) (fun s H C cl fp => (ht s H C cl fp).pts) (fun s H C cl fp => (he s H C cl fp).pe) hs
theorem t_ownLc {i : Nat} {y : Str} {py spos : Pos} (hN : X.N.Nodup) (hy : X.N[i]? = some y) (hyl : X.env.scope.names.lookup y = some .local) (hsw : swapsWith (.ListComp elt [⟨tg, iter, ifs, 0⟩] scope pos) (some (.Name y py)) spos.line X.env = pure true)
    (hi : SI X Y W tg iter wi mi) (ok : BlkOk X.N X.env.scope scope own) (hg : ∀ (s : Shared) (H : Hp) (C : Addr) (cl : List (Str × Addr)) (fp : List Addr), SG (X.blk s H scope (compEnvC scope cl C X.env) fp) Y is tg g mg)
    (ht : ∀ (s : Shared) (H : Hp) (C : Addr) (cl : List (Str × Addr)) (fp : List Addr), ST (X.blk s H scope (compEnvC scope cl C X.env) fp) Y W0 ifs tt mt)
    (he : ∀ (s : Shared) (H : Hp) (C : Addr) (cl : List (Str × Addr)) (fp : List Addr), SE (X.blk s H scope (compEnvC scope cl C X.env) fp) Y W0 elt te me) (hv : ∀ i ∈ is, i ∈ own.map (·.2) := by decide) (hc : X.calm = true := by rfl) (hs : ∀ x, foldedSetIterable iter X.env x = pure x := by intro _; rfl) :
    SS X Y W (.Assign [.Name y py] (.ListComp elt [⟨tg, iter, ifs, 0⟩] scope pos) spos) (tAsg (tLc wi g tt te (own.map (·.2))) (gName i)) (sOwn i (fLc mi mg mt me (own.map (·.2)))) :=
  ⟨ps_lc hN hy hyl hsw hi ok hg ht he hc hs, sim_own (sim_lc hi.sim (hg X.s_0 X.H_0 0 [] []).sim hv (ht X.s_0 X.H_0 0 [] []).sim (he X.s_0 X.H_0 0 [] []).sim)⟩
theorem sim_frz {g : Gam} (h : SimF g W te mf) : SimE g W te (mFrz mf) := fun w0 H0 w H σ env S O Q st p => h w0 H0 w H σ env S O Q st ((PostX.bind p).imp fun c S1 w1 H1 st1 l1 p1 q ow => by
  obtain ⟨w2, st2, l2, r⟩ := own_freeze st1 ow
  exact p1 w2 H1 st2 l2 _ r)
theorem t_setLc {i : Nat} {y : Str} {py spos : Pos} (hN : X.N.Nodup) (hy : X.N[i]? = some y) (hyl : X.env.scope.names.lookup y = some .local) (hsw : swapsWith (.ListComp elt [⟨tg, iter, ifs, 0⟩] scope pos) (some (.Name y py)) spos.line X.env = pure true)
    (hi : SI X Y W tg iter wi mi) (ok : BlkOk X.N X.env.scope scope own) (hg : ∀ (s : Shared) (H : Hp) (C : Addr) (cl : List (Str × Addr)) (fp : List Addr), SG (X.blk s H scope (compEnvC scope cl C X.env) fp) Y is tg g mg)
    (ht : ∀ (s : Shared) (H : Hp) (C : Addr) (cl : List (Str × Addr)) (fp : List Addr), ST (X.blk s H scope (compEnvC scope cl C X.env) fp) Y W0 ifs tt mt)
    (he : ∀ (s : Shared) (H : Hp) (C : Addr) (cl : List (Str × Addr)) (fp : List Addr), SE (X.blk s H scope (compEnvC scope cl C X.env) fp) Y W0 elt te me) (hv : ∀ i ∈ is, i ∈ own.map (·.2) := by decide) (hc : X.calm = true := by rfl) (hs : ∀ x, foldedSetIterable iter X.env x = pure x := by intro _; rfl) :
    SS X Y W (.Assign [.Name y py] (.ListComp elt [⟨tg, iter, ifs, 0⟩] scope pos) spos) (tAsg (tLc wi g tt te (own.map (·.2))) (gName i)) (sAsg (mFrz (fLc mi mg mt me (own.map (·.2)))) (gN i)) :=
  ⟨ps_lc hN hy hyl hsw hi ok hg ht he hc hs, sim_asg (is := [i]) (sim_frz (sim_lc hi.sim (hg X.s_0 X.H_0 0 [] []).sim hv (ht X.s_0 X.H_0 0 [] []).sim (he X.s_0 X.H_0 0 [] []).sim)) fun w0 H0 w H σ env S O d v Q e st r h q => by
    cases h
    exact q _ _ (st.set_v i r) (Slots.set σ (by simp))⟩
def startE (n : Nat) (ds : List D) : Envr := ds.map Sl.v ++ List.replicate (n - ds.length) .no
def mFn (n : Nat) (m : MS) : MFn := fun ds S => match m (startE n ds) S with
  | .nx _ S1 => .ok (.val .non) S1
  | .rt r S1 => .ok r S1
  | .exc c p _ S1 => .exc c p S1
  | _ => .stuck
theorem stR_start {g : Gam} {w : Wd} {H : Hp} {S : Sto} {N : List Str} {ds : List D} {vs : List V} (k : Ok g w H S) (r : RepL g w ds vs) : StR g w H w H (L2.start N vs) (startE N.length ds) S (List.replicate (L2.start N vs).length none) := by
  have nn : ∀ (i : Nat) (p : Addr), (List.replicate (L2.start N vs).length (none : Option Addr))[i]? ≠ some (some p) := fun i p e => by
    rw [List.getElem?_replicate] at e
    split at e <;> cases e
  refine ⟨k, .refl w H, ?_, List.length_replicate, fun i s x o e1 e2 e3 => ?_, fun i j p e _ => absurd e (nn i p), fun i p e => absurd e (nn i p)⟩
  · unfold startE L2.start
    rw [List.length_append, List.length_append, List.length_map, List.length_map, List.length_replicate, List.length_replicate, r.len]
  · have eo : o = none := by
      rw [List.getElem?_replicate] at e3
      split at e3
      · exact (Option.some.inj e3).symm
      · cases e3
    unfold startE at e1
    unfold L2.start at e2
    by_cases hi : i < ds.length
    · rw [List.getElem?_append_left (by rw [List.length_map]; exact hi), List.getElem?_map, List.getElem?_eq_getElem hi] at e1
      obtain ⟨v, ev, rv⟩ := r.at_ (List.getElem?_eq_getElem hi)
      rw [List.getElem?_append_left (by rw [List.length_map, ← r.len]; exact hi), List.getElem?_map, ev] at e2
      cases e1
      cases e2
      exact ⟨eo, v, rfl, rv⟩
    · rw [List.getElem?_append_right (by rw [List.length_map]; omega), List.getElem?_replicate] at e1
      split at e1
      · cases e1
        exact eo
      · cases e1
theorem fn_post {g : Gam} {w : Wd} {H : Hp} {S : Sto} {N : List Str} {ds : List D} {vs : List V} {Q : VK} {E : XK} (k : Ok g w H S) (r : RepL g w ds vs) (h : SimS g (fun cls d _ H => E cls d H) t1 m1) (p : PostF g w H Q E (mFn N.length m1 ds S)) :
    t1 { nx := fun _ H' => Q .non H', rt := Q } (L2.start N vs) H := by
  refine h w H w H _ (startE N.length ds) S _ _ (stR_start k r) ?_
  unfold mFn at p
  cases q : m1 (startE N.length ds) S with
  | stuck => rw [q] at p; exact p
  | bk e S1 => rw [q] at p; exact False.elim p
  | ct e S1 => rw [q] at p; exact False.elim p
  | nx e S1 =>
    rw [q] at p
    exact fun w' H' σ' O' st' _ => p w' H' .non st'.fr st'.ok (by unfold RetR Rep; rfl)
  | rt rr S1 =>
    rw [q] at p
    exact fun w' H' v k' f' r' => p w' H' v f' k' r'
  | exc c x e S1 =>
    rw [q] at p
    exact fun w' H' σ' O' cls dd st' _ x => p w' H' cls dd st'.fr st'.ok x
theorem fn_sim {P : Program} {w : World} {K : PySem.W.Frag} {mg : Str → Option Value} {base : Heap} {x qual : Str} {params : Arguments} {body : List Stmt} {scope : Scope} {dvs : List V} {kws : List (Str × V)} {f : Addr} {fd : FuncData} {N ps : List Str} {k n : Nat} {m1 : MS} (Y : Gam)
    (F : FunD K x qual params body scope dvs kws f fd) (S : FnScope N ps scope) (hn : n = ps.length)
    (hbody : ∀ (cdv : Value) (A : Around) (outer : List Env) (s : Shared) (H : Hp) (E : XK), Room k (A.deeper (PyProof.Rows.envOfC qual scope s.heap.objs.size f cdv)) → L2N.Takes (cxOf (L2N.CX P w) P w K mg base N qual scope f cdv A outer s H E) (fun cls d _ H => E cls d H) →
      PassesOwn (model P w) (A.deeper (PyProof.Rows.envOfC qual scope s.heap.objs.size f cdv)) (PyProof.Rows.envOfC qual scope s.heap.objs.size f cdv) (cxOf (L2N.CX P w) P w K mg base N qual scope f cdv A outer s H E).xe →
      ∃ t1, SB (cxOf (L2N.CX P w) P w K mg base N qual scope f cdv A outer s H E) Y (fun cls d _ H => E cls d H) body t1 m1) :
    FnOk P w K mg base (L2N.CX P w) (k + 1) f fd ps (spOf Y n (mFn N.length m1)) :=
  F.ok S (fun vs H Q E h => by rw [h.1, hn]) (fun cdv A outer s H vs Q E hr h => by
    obtain ⟨_, w1, ds, S1, k1, r1, p1⟩ := h
    obtain ⟨t1, B⟩ := hbody cdv A outer s H E hr (L2N.takes_of rfl rfl rfl rfl) (passes_of rfl)
    exact ⟨_, B.pss, fn_post k1 r1 B.sim p1⟩)
end
end Mm
namespace Mm
open PySem L2
theorem rep_lst {g : Gam} {w : Wd} {ds : List D} {v : V} (h : Rep g w (.lst ds) v) : ∃ a vs, v = .ref a ∧ w.G a = some (.lst vs) ∧ RepL g w ds vs := by
  unfold Rep at h
  exact h
theorem rep_tup {g : Gam} {w : Wd} {ds : List D} {v : V} (h : Rep g w (.tup ds) v) : ∃ a vs, v = .ref a ∧ SqT g.K w.G a vs ∧ RepL g w ds vs := by
  unfold Rep at h
  obtain ⟨a, vs, e, q, r⟩ := h
  exact ⟨a, vs, e, q.sq, r⟩
theorem rep_str {g : Gam} {w : Wd} {x : Str} {v : V} (h : Rep g w (.str x) v) : v = .str x := by
  unfold Rep at h
  exact h
theorem rep_bl {g : Gam} {w : Wd} {x : Bool} {v : V} (h : Rep g w (.bl x) v) : v = .bl x := by
  unfold Rep at h
  exact h
theorem rep_non {g : Gam} {w : Wd} {v : V} (h : Rep g w .non v) : v = .non := by
  unfold Rep at h
  exact h
theorem rep_ref {g : Gam} {w : Wd} {n : Nat} {v : V} (h : Rep g w (.ref n) v) : ∃ a, w.rho[n]? = some a ∧ v = .ref a := by
  unfold Rep at h
  exact h
theorem rep_str' {g : Gam} {w : Wd} {x : Str} : Rep g w (.str x) (.str x) := by
  unfold Rep
  rfl
theorem rep_non' {g : Gam} {w : Wd} : Rep g w .non .non := by
  unfold Rep
  rfl
theorem repL_two {g : Gam} {w : Wd} {d1 d2 : D} {vs : List V} (h : RepL g w [d1, d2] vs) : ∃ v1 v2, vs = [v1, v2] ∧ Rep g w d1 v1 ∧ Rep g w d2 v2 := by
  unfold RepL at h
  obtain ⟨v1, r1, e1, q1, h⟩ := h
  unfold RepL at h
  obtain ⟨v2, r2, e2, q2, h⟩ := h
  unfold RepL at h
  subst h e2
  exact ⟨v1, v2, e1, q1, q2⟩
theorem repL_one {g : Gam} {w : Wd} {d1 : D} {vs : List V} (h : RepL g w [d1] vs) : ∃ v1, vs = [v1] ∧ Rep g w d1 v1 := by
  unfold RepL at h
  obtain ⟨v1, r1, e1, q1, h⟩ := h
  unfold RepL at h
  subst h
  exact ⟨v1, e1, q1⟩
def intsOf : List D → Option (List Int)
  | [] => some []
  | .int i :: ds => (intsOf ds).map (i :: ·)
  | _ => none
theorem intsOf_rep {g : Gam} {w : Wd} : ∀ {ds : List D} {ns : List Int} {vs : List V}, intsOf ds = some ns → RepL g w ds vs → vs = ns.map V.int
  | [], ns, vs, h, r => by
    unfold intsOf at h
    unfold RepL at r
    cases h
    exact r
  | d :: ds, ns, vs, h, r => by
    cases d with
    | int i =>
      unfold intsOf at h
      cases q : intsOf ds with
      | none => rw [q] at h; cases h
      | some ns' =>
        rw [q] at h
        cases h
        unfold RepL at r
        obtain ⟨v, r', e1, a, b⟩ := r
        rw [e1, rep_int a, intsOf_rep q b]
        rfl
    | _ =>
      unfold intsOf at h
      cases h
def blsOf : List D → Option (List Bool)
  | [] => some []
  | .bl i :: ds => (blsOf ds).map (i :: ·)
  | _ => none
theorem blsOf_map (ns : List Bool) : blsOf (ns.map D.bl) = some ns := by
  induction ns with
  | nil => rfl
  | cons n ns ih =>
    unfold List.map blsOf
    rw [ih]
    rfl
theorem blsOf_rep {g : Gam} {w : Wd} : ∀ {ds : List D} {ns : List Bool} {vs : List V}, blsOf ds = some ns → RepL g w ds vs → vs = ns.map V.bl
  | [], ns, vs, h, r => by
    unfold blsOf at h
    unfold RepL at r
    cases h
    exact r
  | d :: ds, ns, vs, h, r => by
    cases d with
    | bl i =>
      unfold blsOf at h
      cases q : blsOf ds with
      | none => rw [q] at h; cases h
      | some ns' =>
        rw [q] at h
        cases h
        unfold RepL at r
        obtain ⟨v, r', e1, a, b⟩ := r
        rw [e1, rep_bl a, blsOf_rep q b]
        rfl
    | _ =>
      unfold blsOf at h
      cases h
section
variable {X : Cx} {Y : Gam} {W : WX} {e a b c tg iter elt : Expr} {es rest ifs : List Expr} {ta tb te : TE} {tt tu : TT} {ma mb me : ME} {mt mu : MT} {mf : MF} {t : TA} {m : MA} {pos p : Pos} {s : Stmt} {ss : List Stmt} {t1 t2 : TS} {m1 m2 : MS} {wi : TI} {mi : MI}
def iSeq (K : PySem.W.Frag) (tl : TE) : TI := fun σ H R => tl σ H fun x H1 => ∃ a, x = .ref a ∧ (((∃ xs, SqL K H1 a xs) ∧ R (Itl K a) H1) ∨ ((∃ xs, SqT K H1 a xs) ∧ R (Itt K a) H1))
theorem pi_seq {l : Expr} {tl : TE} (hl : PE X l tl) : PI X tg l (iSeq X.K tl) := by
  refine ⟨fun pins s σ H R I h => ?_⟩
  refine thn (hl.run pins s σ H _ I h) fun v s1 ⟨x, H1, I1, r1, q1⟩ => ?_
  obtain ⟨a, e, q1⟩ := q1
  subst e
  cases r1
  rcases q1 with ⟨⟨xs, hq⟩, q⟩ | ⟨⟨xs, hq⟩, q⟩
  · obtain ⟨its, rv, p, hz⟩ := I1.list hq
    refine wpAny_pyIter_list p.isList ?_
    refine ⟨s1.heap.objs.size, [s1.heap.objs.size], _, _, H1, rfl, I1.kept (t' := s1.toks) fun b o e => Heap.get?_push_of_some _ e, turn_list a _, ⟨_, Heap.get?_push_size _ rfl, rfl, rfl⟩, fun b hb => ?_, q⟩
    have e : b = s1.heap.objs.size := by simpa using hb
    subst e
    exact I1.fpOk (Nat.le_refl _) (I1.hok.fresh (Nat.le_refl _))
  · obtain ⟨its, rv, p, hz⟩ := I1.tuple hq
    refine wpAny_pyIter_tuple (show s1.heap.IsTuple a its.toArray from p) ?_
    refine ⟨s1.heap.objs.size, [s1.heap.objs.size], _, _, H1, rfl, I1.kept (t' := s1.toks) fun b o e => Heap.get?_push_of_some _ e, turn_tuple a _, ⟨_, Heap.get?_push_size _ rfl, rfl, rfl⟩, fun b hb => ?_, q⟩
    have e : b = s1.heap.objs.size := by simpa using hb
    subst e
    exact I1.fpOk (Nat.le_refl _) (I1.hok.fresh (Nat.le_refl _))
def itL (me : ME) : MI := fun env S => (me env S).bind fun d S1 => match d with
  | .lst ds => .ok ds S1
  | .tup ds => .ok ds S1
  | _ => .stuck
theorem itR_list {g : Gam} {w : Wd} {a : Addr} {ds : List D} {vs : List V} (e : w.G a = some (.lst vs)) (r : RepL g w ds vs) : ItR g w (Itl g.K a) ds := fun w2 H2 l x => by
  have q : SqL g.K H2 a vs := .inl (.inl (x _ _ (l.ex _ _ e)))
  refine ⟨fun i d hd => ?_, ⟨vs, q, by rw [r.len]; exact Nat.le_refl _⟩⟩
  obtain ⟨v, hv, rv⟩ := r.at_ hd
  refine ⟨⟨vs, v, q, hv⟩, fun y H' hy => ?_⟩
  obtain ⟨e1, e2⟩ := hy
  have e3 := e2 vs q
  rw [hv] at e3
  cases e3
  rw [e1]
  exact ⟨w2, .refl, rv.mono l⟩
theorem itR_tup {g : Gam} {w : Wd} {a : Addr} {ds : List D} {vs : List V} (e : SqT g.K w.G a vs) (r : RepL g w ds vs) : ItR g w (Itt g.K a) ds := fun w2 H2 l x => by
  have q : SqT g.K H2 a vs := same_sqT (l.ex.trans x) e
  refine ⟨fun i d hd => ?_, ⟨vs, q, by rw [r.len]; exact Nat.le_refl _⟩⟩
  obtain ⟨v, hv, rv⟩ := r.at_ hd
  refine ⟨⟨vs, v, q, hv⟩, fun y H' hy => ?_⟩
  obtain ⟨e1, e2⟩ := hy
  have e3 := e2 vs q
  rw [hv] at e3
  cases e3
  rw [e1]
  exact ⟨w2, .refl, rv.mono l⟩
theorem i_seq (h : SE X Y W e te me) (hK : X.K = Y.K := by rfl) : SI X Y W tg e (iSeq Y.K te) (itL me) := ⟨hK ▸ pi_seq h.pe, fun w0 H0 w H σ env S O Q st p =>
  h.sim w0 H0 w H σ env S O _ st ((PostX.bind p).imp fun d S1 w1 H1 st1 l1 p1 v r => by
    cases d with
    | lst ds =>
      obtain ⟨a, vs, e1, e2, e3⟩ := rep_lst r
      exact ⟨a, e1, .inl ⟨⟨vs, .inl (.inl (st1.ok.ex _ _ e2))⟩, p1 w1 H1 st1 (.refl w1) _ (itR_list (g := Y) e2 e3)⟩⟩
    | tup ds =>
      obtain ⟨a, vs, e1, e2, e3⟩ := rep_tup r
      exact ⟨a, e1, .inr ⟨⟨vs, same_sqT st1.ok.ex e2⟩, p1 w1 H1 st1 (.refl w1) _ (itR_tup (g := Y) e2 e3)⟩⟩
    | _ => exact False.elim p1)⟩
def rngD (lo : Int) (n : Nat) : List D := (List.range n).map fun (i : Nat) => D.int (lo + i)
theorem itR_rng {g : Gam} {w : Wd} (lo : Int) (n : Nat) : ItR g w (Itr lo n) (rngD lo n) := fun w2 H2 l x => by
  refine ⟨fun i d hd => ?_, ?_⟩
  · unfold rngD at hd
    rw [List.getElem?_map] at hd
    have hi : i < n := by
      cases q : (List.range n)[i]? with
      | none => rw [q] at hd; cases hd
      | some j =>
        have := (List.getElem?_eq_some_iff.mp q).1
        simpa using this
    rw [List.getElem?_range hi] at hd
    cases hd
    refine ⟨hi, fun y H' hy => ?_⟩
    obtain ⟨e1, e2⟩ := hy
    rw [e1, e2]
    exact ⟨w2, .refl, rep_int'⟩
  · show n ≤ (rngD lo n).length
    unfold rngD
    rw [List.length_map, List.length_range]
    exact Nat.le_refl _
def bBnd (i : Int) (n : Nat) : Bool := Nat.ble i.natAbs n
theorem bBnd_iff {i : Int} {n : Nat} : bBnd i n = true ↔ i.natAbs ≤ n := Iff.of_eq Nat.ble_eq
def rgB (i : Int) : Bool := bBnd i 4611686018427387903
theorem rgB_ok {i : Int} (h : rgB i = true) : -(2 ^ 62) ≤ i ∧ i < 2 ^ 62 := by
  have := bBnd_iff.mp h
  omega
def itR1 (m : MA) : MI := fun env S => (m env S).bind fun ds S1 => match ds with
  | [.int j] => if rgB j then .ok (rngD 0 j.toNat) S1 else .stuck
  | _ => .stuck
theorem i_range1 (hm : X.mg "range" = none) (ha : SA X Y W [a] t m) (hg : Gl X "range" := by rfl) (hs : starEach [a] X.env = [(false, eval a X.env)] := by rfl) : SI X Y W tg (.Call (.Name "range" p) [a] [] pos) (iRng1 t) (itR1 m) := ⟨pi_range1 hg hm ha.pa hs, fun w0 H0 w H σ env S O Q st p =>
  ha.sim w0 H0 w H σ env S O _ st ((PostX.bind p).imp fun ds S1 w1 H1 st1 l1 p1 vs r => by
    split at p1
    · rename_i j
      split at p1
      · rename_i z
        obtain ⟨v, e1, e2⟩ := repL_one r
        rw [rep_int e2] at e1
        exact ⟨j, e1, (rgB_ok z).1, (rgB_ok z).2, p1 w1 H1 st1 (.refl w1) _ (itR_rng 0 _)⟩
      · exact False.elim p1
    · exact False.elim p1)⟩
def enumD (k : Nat) : List D → List D
  | [] => []
  | d :: ds => .tup [.int (k : Nat), d] :: enumD (k + 1) ds
theorem enumD_len : ∀ (ds : List D) (k : Nat), (enumD k ds).length = ds.length
  | [], _ => rfl
  | d :: ds, k => by
    unfold enumD
    rw [List.length_cons, List.length_cons, enumD_len ds]
theorem enumD_at : ∀ (ds : List D) (k i : Nat) (x : D), (enumD k ds)[i]? = some x → ∃ d, ds[i]? = some d ∧ x = .tup [.int ((k + i : Nat) : Int), d]
  | [], _, _, _, h => by simp [enumD] at h
  | d :: ds, k, 0, x, h => by
    unfold enumD at h
    exact ⟨d, rfl, (Option.some.inj h).symm⟩
  | d :: ds, k, i + 1, x, h => by
    unfold enumD at h
    obtain ⟨d', h1, h2⟩ := enumD_at ds (k + 1) i x h
    exact ⟨d', h1, by rw [h2, Nat.add_right_comm, Nat.add_assoc]⟩
theorem itR_enum {g : Gam} {w : Wd} {a : Addr} {ds : List D} {vs : List V} (e : w.G a = some (.lst vs)) (r : RepL g w ds vs) : ItR g w (Ite g.K a) (enumD 0 ds) := fun w2 H2 l x => by
  have q : SqL g.K H2 a vs := .inl (.inl (x _ _ (l.ex _ _ e)))
  refine ⟨fun i d hd => ?_, ⟨vs, q, by rw [enumD_len, r.len]; exact Nat.le_refl _⟩⟩
  obtain ⟨d', hd', ed⟩ := enumD_at ds 0 i d hd
  obtain ⟨v, hv, rv⟩ := r.at_ hd'
  refine ⟨⟨vs, v, q, hv⟩, fun y H' hy => ?_⟩
  obtain ⟨T, x', e1, e2, e3, e4⟩ := hy
  have e5 := e4 vs q
  rw [hv] at e5
  cases e5
  rw [e1, e3, ed, Nat.zero_add]
  refine ⟨_, Grow.one e2 nt_tup, ?_⟩
  unfold Rep
  have le : w2.le ⟨w2.rho, upd w2.G T (.tup [.int (i : Nat), v])⟩ := ⟨⟨[], by simp⟩, same_upd (none_of_same x e2)⟩
  exact ⟨T, _, rfl, .inl (.inl upd_same), RepL.cons_ rep_int' (RepL.cons_ ((rv.mono l).mono le) RepL.nil_)⟩
def zipD : List D → List D → List D
  | x :: xs, y :: ys => .tup [x, y] :: zipD xs ys
  | _, _ => []
theorem zipD_at : ∀ (xs ys : List D) (i : Nat) (z : D), (zipD xs ys)[i]? = some z → ∃ x y, xs[i]? = some x ∧ ys[i]? = some y ∧ z = .tup [x, y]
  | [], _, _, _, h => by simp [zipD] at h
  | _ :: _, [], _, _, h => by simp [zipD] at h
  | x :: xs, y :: ys, 0, z, h => by
    unfold zipD at h
    exact ⟨x, y, rfl, rfl, (Option.some.inj h).symm⟩
  | x :: xs, y :: ys, i + 1, z, h => by
    unfold zipD at h
    exact zipD_at xs ys i z h
theorem zipD_len : ∀ (xs ys : List D), (zipD xs ys).length = min xs.length ys.length
  | [], _ => by simp [zipD]
  | _ :: _, [] => by simp [zipD]
  | x :: xs, y :: ys => by
    unfold zipD
    rw [List.length_cons, zipD_len xs ys, List.length_cons, List.length_cons]
    omega
end
end Mm
namespace Mm
open PySem L2
def ins1 (x : Int) : List Int → List Int
  | [] => [x]
  | y :: ys => if x ≤ y then x :: y :: ys else y :: ins1 x ys
def isrt : List Int → List Int
  | [] => []
  | x :: xs => ins1 x (isrt xs)
theorem ins1_perm (x : Int) : ∀ ys : List Int, (ins1 x ys).Perm (x :: ys)
  | [] => .refl _
  | y :: ys => by
    unfold ins1
    split
    · exact .refl _
    · exact ((ins1_perm x ys).cons y).trans (.swap x y ys)
theorem isrt_perm : ∀ xs : List Int, (isrt xs).Perm xs
  | [] => .refl _
  | x :: xs => by
    unfold isrt
    exact (ins1_perm x (isrt xs)).trans ((isrt_perm xs).cons x)
theorem ins1_sorted (x : Int) : ∀ ys : List Int, ys.Pairwise (· ≤ ·) → (ins1 x ys).Pairwise (· ≤ ·)
  | [], _ => List.pairwise_singleton _ _
  | y :: ys, h => by
    unfold ins1
    rw [List.pairwise_cons] at h
    split
    · rename_i hx
      refine List.pairwise_cons.mpr ⟨fun z hz => ?_, List.pairwise_cons.mpr h⟩
      rcases List.mem_cons.mp hz with e | e
      · rw [e]
        exact hx
      · exact Int.le_trans hx (h.1 z e)
    · rename_i hx
      refine List.pairwise_cons.mpr ⟨fun z hz => ?_, ins1_sorted x ys h.2⟩
      rcases List.mem_cons.mp ((ins1_perm x ys).mem_iff.mp hz) with e | e
      · rw [e]
        omega
      · exact h.1 z e
theorem isrt_sorted : ∀ xs : List Int, (isrt xs).Pairwise (· ≤ ·)
  | [] => .nil
  | x :: xs => ins1_sorted x _ (isrt_sorted xs)
theorem sorted_unique : ∀ {xs ys : List Int}, xs.Perm ys → xs.Pairwise (· ≤ ·) → ys.Pairwise (· ≤ ·) → xs = ys
  | [], ys, h, _, _ => (List.nil_perm.mp h).symm
  | x :: xs, [], h, _, _ => absurd (List.perm_nil.mp h) (by simp)
  | x :: xs, y :: ys, h, hx, hy => by
    rw [List.pairwise_cons] at hx hy
    have e : x = y := by
      have h1 : x ∈ y :: ys := h.mem_iff.mp List.mem_cons_self
      have h2 : y ∈ x :: xs := h.mem_iff.mpr List.mem_cons_self
      rcases List.mem_cons.mp h1 with z | z
      · exact z
      · rcases List.mem_cons.mp h2 with q | q
        · exact q.symm
        · have := hy.1 x z
          have := hx.1 y q
          omega
    subst e
    rw [sorted_unique (List.Perm.cons_inv h) hx.2 hy.2]
section
variable {X : Cx} {Y : Gam} {W : WX} {e a b c tg iter elt : Expr} {es rest ifs : List Expr} {ta tb te : TE} {tt tu : TT} {ma mb me : ME} {mt mu : MT} {mf : MF} {t : TA} {m : MA} {pos p : Pos} {s : Stmt} {ss : List Stmt} {t1 t2 : TS} {m1 m2 : MS} {wi : TI} {mi : MI} {x : Str}
def CallD (g : Gam) (r : List V → Hp → VK → Prop) (f : Sto → List D → Option D) : Prop := ∀ w H S ds vs d (Q : VK), Ok g w H S → RepL g w ds vs → f S ds = some d → (∀ w' H' v, Grow w H w' H' → Rep g w' d v → Q v H') → r vs H Q
def CallO (g : Gam) (r : List V → Hp → VK → Prop) (f : Sto → List D → Option Cell) : Prop := ∀ w H S ds vs c (Q : VK), Ok g w H S → RepL g w ds vs → f S ds = some c → (∀ p o, H p = none → (∀ ps, o ≠ .tbl ps) → CellR g w (upd H p o) p c → Q (.ref p) (upd H p o)) → r vs H Q
def eCB (f : Sto → List D → Option D) (m : MA) : ME := fun env S => (m env S).bind fun ds S1 => opt (f S1 ds) S1
def fCB (f : Sto → List D → Option Cell) (m : MA) : MF := fun env S => (m env S).bind fun ds S1 => opt (f S1 ds) S1
theorem sim_cb {g : Gam} {r : List V → Hp → VK → Prop} {f : Sto → List D → Option D} (h : CallD g r f) (ha : SimA g W t m) : SimE g W (tCB r t) (eCB f m) := fun w0 H0 w H σ env S O Q st p =>
  ha w0 H0 w H σ env S O _ st ((PostX.bind p).imp fun ds S1 w1 H1 st1 l1 p1 vs rs => by
    obtain ⟨d, e, k⟩ := PostX.opt_ p1 st1
    exact h w1 H1 S1 ds vs d Q st1.ok rs e fun w3 H3 v q r => k w3 H3 (st1.grow q) (q.le st1.ok) v r)
theorem sim_co {g : Gam} {r : List V → Hp → VK → Prop} {f : Sto → List D → Option Cell} (h : CallO g r f) (ha : SimA g W t m) : SimF g W (tCB r t) (fCB f m) := fun w0 H0 w H σ env S O Q st p =>
  ha w0 H0 w H σ env S O _ st ((PostX.bind p).imp fun ds S1 w1 H1 st1 l1 p1 vs rs => by
    obtain ⟨d, e, k⟩ := PostX.opt_ p1 st1
    exact h w1 H1 S1 ds vs d Q st1.ok rs e fun q o hq nt hc => k w1 _ (st1.lay hq nt) (.refl w1) q (st1.own_new hq hc))
theorem s_cb {id : String} {r : List V → Hp → VK → Prop} {f : Sto → List D → Option D} (hd : CallD Y r f) (hc : CallR X (.builtin id) r) (hm : X.mg x = none) (hv : bootBuiltins x = some (.builtin id)) (ha : SA X Y W (e :: es) t m) (hg : Gl X x := by rfl) (hn : x ≠ "__name__" := by decide) (hdb : (x == ("__debug__" : Str)) = false := by decide)
    (he : starEach (e :: es) X.env = (false, eval e X.env) :: starEach es X.env := by rfl) (hpl : (backTo pos (starEach es X.env)).any (·.1) = false := by rfl) : SE X Y W (.Call (.Name x p) (e :: es) [] pos) (tCB r t) (eCB f m) := ⟨pe_callB hc hg hm hv ha.pa hn hdb he hpl, sim_cb hd ha.sim⟩
theorem f_cb {id : String} {r : List V → Hp → VK → Prop} {f : Sto → List D → Option Cell} (hd : CallO Y r f) (hc : CallR X (.builtin id) r) (hm : X.mg x = none) (hv : bootBuiltins x = some (.builtin id)) (ha : SA X Y W (e :: es) t m) (hg : Gl X x := by rfl) (hn : x ≠ "__name__" := by decide) (hdb : (x == ("__debug__" : Str)) = false := by decide)
    (he : starEach (e :: es) X.env = (false, eval e X.env) :: starEach es X.env := by rfl) (hpl : (backTo pos (starEach es X.env)).any (·.1) = false := by rfl) : SF X Y W (.Call (.Name x p) (e :: es) [] pos) (tCB r t) (fCB f m) := ⟨pe_callB hc hg hm hv ha.pa hn hdb he hpl, sim_co hd ha.sim⟩
theorem s_ct {id : String} {r : List V → Hp → VK → Prop} {f : Sto → List D → Option D} (hd : CallD Y r f) (hc : CallR X (.type id) r) (hm : X.mg x = none) (hv : bootBuiltins x = some (.type id)) (ha : SA X Y W (e :: es) t m) (hg : Gl X x := by rfl) (hn : x ≠ "__name__" := by decide) (hdb : (x == ("__debug__" : Str)) = false := by decide)
    (he : starEach (e :: es) X.env = (false, eval e X.env) :: starEach es X.env := by rfl) (hpl : (backTo pos (starEach es X.env)).any (·.1) = false := by rfl) : SE X Y W (.Call (.Name x p) (e :: es) [] pos) (tCB r t) (eCB f m) := ⟨pe_callTy hc hg hm hv ha.pa hn hdb he hpl, sim_cb hd ha.sim⟩
theorem f_ct {id : String} {r : List V → Hp → VK → Prop} {f : Sto → List D → Option Cell} (hd : CallO Y r f) (hc : CallR X (.type id) r) (hm : X.mg x = none) (hv : bootBuiltins x = some (.type id)) (ha : SA X Y W (e :: es) t m) (hg : Gl X x := by rfl) (hn : x ≠ "__name__" := by decide) (hdb : (x == ("__debug__" : Str)) = false := by decide)
    (he : starEach (e :: es) X.env = (false, eval e X.env) :: starEach es X.env := by rfl) (hpl : (backTo pos (starEach es X.env)).any (·.1) = false := by rfl) : SF X Y W (.Call (.Name x p) (e :: es) [] pos) (tCB r t) (fCB f m) := ⟨pe_callTy hc hg hm hv ha.pa hn hdb he hpl, sim_co hd ha.sim⟩
def fLen : Sto → List D → Option D
  | _, [.lst ds] => some (.int ds.length)
  | _, [.tup ds] => some (.int ds.length)
  | S, [.ref n] => (match S[n]? with
    | some (.lst ds) => some (.int ds.length)
    | _ => none)
  | _, [.str z] => if szB z.length then some (.int z.length) else none
  | _, _ => none
theorem cell_lst {g : Gam} {w : Wd} {H : Hp} {S : Sto} {n : Nat} {v : V} {ds : List D} (k : Ok g w H S) (r : Rep g w (.ref n) v) (h : S[n]? = some (.lst ds)) : ∃ a vs, v = .ref a ∧ w.rho[n]? = some a ∧ H a = some (.lst vs) ∧ RepL g w ds vs := by
  obtain ⟨a, e1, e2⟩ := rep_ref r
  obtain ⟨_, vs, e3, e4⟩ := k.cells.at_ n a _ e1 h
  exact ⟨a, vs, e2, e1, e3, e4⟩
theorem CallR.or {f : Value} {r r' : List V → Hp → VK → Prop} (h : CallR X f r) (h' : CallR X f r') : CallR X f (fun xs H Q => r xs H Q ∨ r' xs H Q) := fun pins s σ H xs us Q I r1 q => q.elim (h pins s σ H xs us Q I r1) (h' pins s σ H xs us Q I r1)
def rLn (K : PySem.W.Frag) : List V → Hp → VK → Prop := fun xs H Q => (∃ p ys, xs = [.ref p] ∧ (SqL K H p ys ∨ SqT K H p ys) ∧ Q (.int ys.length) H) ∨ ∃ z, xs = [.str z] ∧ z.length ≤ sizeLine ∧ Q (.int z.length) H
theorem cr_len : CallR X (.builtin "len") (rLn X.K) := CallR.or call_len_seq call_len_str
theorem cd_len {g : Gam} : CallD g (rLn g.K) fLen := fun w H S ds vs d Q k r e q => by
  unfold fLen at e
  split at e
  · rename_i ds
    cases e
    obtain ⟨v, e1, e2⟩ := repL_one r
    obtain ⟨a, us, x1, x2, x3⟩ := rep_lst e2
    rw [x1] at e1
    exact .inl ⟨a, us, e1, .inl (.inl (.inl (k.ex _ _ x2))), q w H _ .refl (by rw [x3.len]; exact rep_int')⟩
  · rename_i ds
    cases e
    obtain ⟨v, e1, e2⟩ := repL_one r
    obtain ⟨a, us, x1, x2, x3⟩ := rep_tup e2
    rw [x1] at e1
    exact .inl ⟨a, us, e1, .inr (same_sqT k.ex x2), q w H _ .refl (by rw [x3.len]; exact rep_int')⟩
  · rename_i n
    split at e
    · rename_i ds hS
      cases e
      obtain ⟨v, e1, e2⟩ := repL_one r
      obtain ⟨a, us, x1, x2, x3, x4⟩ := cell_lst k e2 hS
      rw [x1] at e1
      exact .inl ⟨a, us, e1, .inl (.inl (.inl x3)), q w H _ .refl (by rw [x4.len]; exact rep_int')⟩
    · cases e
  · rename_i z
    split at e
    · rename_i hz
      cases e
      obtain ⟨v, e1, e2⟩ := repL_one r
      rw [rep_str e2] at e1
      exact .inr ⟨z, e1, szB_le hz, q w H _ .refl rep_int'⟩
    · cases e
  · cases e
def fListOf : Sto → List D → Option Cell
  | _, [.lst ds] => some (.lst ds)
  | _, [.tup ds] => some (.lst ds)
  | S, [.ref n] => (match S[n]? with
    | some (.lst ds) => some (.lst ds)
    | _ => none)
  | _, _ => none
theorem co_list {g : Gam} : CallO g (fun xs H Q => ∃ p ys, xs = [.ref p] ∧ (SqL g.K H p ys ∨ SqT g.K H p ys) ∧ ∀ l, H l = none → Q (.ref l) (upd H l (.lst ys))) fListOf := fun w H S ds vs c Q k r e q => by
  unfold fListOf at e
  split at e
  · cases e
    obtain ⟨v, e1, e2⟩ := repL_one r
    obtain ⟨a, us, x1, x2, x3⟩ := rep_lst e2
    rw [x1] at e1
    exact ⟨a, us, e1, .inl (.inl (.inl (k.ex _ _ x2))), fun l hl => q l _ hl nt_lst ⟨us, upd_same, x3⟩⟩
  · cases e
    obtain ⟨v, e1, e2⟩ := repL_one r
    obtain ⟨a, us, x1, x2, x3⟩ := rep_tup e2
    rw [x1] at e1
    exact ⟨a, us, e1, .inr (same_sqT k.ex x2), fun l hl => q l _ hl nt_lst ⟨us, upd_same, x3⟩⟩
  · split at e
    · rename_i ds hS
      cases e
      obtain ⟨v, e1, e2⟩ := repL_one r
      obtain ⟨a, us, x1, x2, x3, x4⟩ := cell_lst k e2 hS
      rw [x1] at e1
      exact ⟨a, us, e1, .inl (.inl (.inl x3)), fun l hl => q l _ hl nt_lst ⟨us, upd_same, x4⟩⟩
    · cases e
  · cases e
def fTupOf : Sto → List D → Option D
  | _, [.lst ds] => some (.tup ds)
  | _, [.tup ds] => some (.tup ds)
  | _, _ => none
theorem cd_tup {g : Gam} : CallD g (fun xs H Q => ∃ p ys, xs = [.ref p] ∧ ((SqL g.K H p ys ∧ ∀ l, H l = none → Q (.ref l) (upd H l (.tup ys))) ∨ (SqT g.K H p ys ∧ Q (.ref p) H))) fTupOf := fun w H S ds vs d Q k r e q => by
  unfold fTupOf at e
  split at e
  · cases e
    obtain ⟨v, e1, e2⟩ := repL_one r
    obtain ⟨a, us, x1, x2, x3⟩ := rep_lst e2
    rw [x1] at e1
    exact ⟨a, us, e1, .inl ⟨.inl (.inl (k.ex _ _ x2)), fun l hl => q _ _ _ (Grow.one hl nt_tup) (rep_tup_new k hl x3)⟩⟩
  · cases e
    obtain ⟨v, e1, e2⟩ := repL_one r
    obtain ⟨a, us, x1, x2, x3⟩ := rep_tup e2
    rw [x1] at e1
    exact ⟨a, us, e1, .inr ⟨same_sqT k.ex x2, q w H _ .refl (by rw [← x1]; exact e2)⟩⟩
  · cases e
def fSorted : Sto → List D → Option Cell
  | _, [.lst ds] => (intsOf ds).map fun ns => .lst ((isrt ns).map D.int)
  | _, _ => none
theorem co_sorted {g : Gam} : CallO g (rSortedI g.K) fSorted := fun w H S ds vs c Q k r e q => by
  unfold fSorted at e
  split at e
  · rename_i ds
    cases z : intsOf ds with
    | none => rw [z] at e; cases e
    | some ns =>
      rw [z] at e
      cases e
      obtain ⟨v, e1, e2⟩ := repL_one r
      obtain ⟨a, us, x1, x2, x3⟩ := rep_lst e2
      rw [x1] at e1
      refine ⟨a, ns, e1, .inl (.inl (by rw [← intsOf_rep z x3]; exact k.ex _ _ x2)), fun ns' l hp hs hl => ?_⟩
      have en : ns' = isrt ns := sorted_unique (hp.trans (isrt_perm ns).symm) hs (isrt_sorted ns)
      rw [en]
      exact q l _ hl nt_lst ⟨_, upd_same, RepL.ints _⟩
  · cases e
def fSum : Sto → List D → Option D
  | _, [.lst ds] => (intsOf ds).map fun ns => .int ns.sum
  | _, _ => none
theorem cd_sum {g : Gam} : CallD g (rSum g.K) fSum := fun w H S ds vs c Q k r e q => by
  unfold fSum at e
  split at e
  · rename_i ds
    cases z : intsOf ds with
    | none => rw [z] at e; cases e
    | some ns =>
      rw [z] at e
      cases e
      obtain ⟨v, e1, e2⟩ := repL_one r
      obtain ⟨a, us, x1, x2, x3⟩ := rep_lst e2
      rw [x1] at e1
      exact ⟨a, ns, e1, .inl (.inl (by rw [← intsOf_rep z x3]; exact k.ex _ _ x2)), q w H _ .refl rep_int'⟩
  · cases e
def fAll : Sto → List D → Option D
  | _, [.lst ds] => (blsOf ds).map fun ns => .bl (ns.all id)
  | _, _ => none
theorem cd_all {g : Gam} : CallD g (rAll g.K) fAll := fun w H S ds vs c Q k r e q => by
  unfold fAll at e
  split at e
  · rename_i ds
    cases z : blsOf ds with
    | none => rw [z] at e; cases e
    | some ns =>
      rw [z] at e
      cases e
      obtain ⟨v, e1, e2⟩ := repL_one r
      obtain ⟨a, us, x1, x2, x3⟩ := rep_lst e2
      rw [x1] at e1
      exact ⟨a, ns, e1, .inl (.inl (by rw [← blsOf_rep z x3]; exact k.ex _ _ x2)), q w H _ .refl rep_bl'⟩
  · cases e
def fAny : Sto → List D → Option D
  | _, [.lst ds] => (blsOf ds).map fun ns => .bl (ns.any id)
  | _, _ => none
theorem cd_any {g : Gam} : CallD g (rAny g.K) fAny := fun w H S ds vs c Q k r e q => by
  unfold fAny at e
  split at e
  · rename_i ds
    cases z : blsOf ds with
    | none => rw [z] at e; cases e
    | some ns =>
      rw [z] at e
      cases e
      obtain ⟨v, e1, e2⟩ := repL_one r
      obtain ⟨a, us, x1, x2, x3⟩ := rep_lst e2
      rw [x1] at e1
      exact ⟨a, ns, e1, .inl (.inl (by rw [← blsOf_rep z x3]; exact k.ex _ _ x2)), q w H _ .refl rep_bl'⟩
  · cases e
def fInt : Sto → List D → Option D
  | _, [.int i] => some (.int i)
  | _, [.bl b] => some (.int (if b then 1 else 0))
  | _, _ => none
theorem cd_int {g : Gam} : CallD g (fun xs H Q => (∃ i, xs = [.int i] ∧ Q (.int i) H) ∨ ∃ k, xs = [.bl k] ∧ Q (.int (if k then 1 else 0)) H) fInt := fun w H S ds vs c Q k r e q => by
  unfold fInt at e
  split at e
  · rename_i i
    cases e
    obtain ⟨v, e1, e2⟩ := repL_one r
    rw [rep_int e2] at e1
    exact .inl ⟨i, e1, q w H _ .refl rep_int'⟩
  · rename_i i
    cases e
    obtain ⟨v, e1, e2⟩ := repL_one r
    rw [rep_bl e2] at e1
    exact .inr ⟨i, e1, q w H _ .refl rep_int'⟩
  · cases e
def eBits (me : ME) : ME := fun env S => (me env S).bind fun d S1 => match d with
  | .int i => .ok (.int (Builtin.Int.intBits i : Nat)) S1
  | _ => .stuck
theorem s_bits {apos : Pos} (h : SE X Y W e te me) (hbase : attributeBase e "bit_length" X.env (eval e X.env) = eval e X.env := by rfl) (hline : (apos.endLine == pos.line) = true := by rfl) : SE X Y W (.Call (.Attribute e "bit_length" apos) [] [] pos) (tBits te) (eBits me) := ⟨pe_bits h.pe hbase hline, fun w0 H0 w H σ env S O Q st p =>
  h.sim w0 H0 w H σ env S O _ st ((PostX.bind p).imp fun d S1 w1 H1 st1 l1 p1 v r => by
    cases d with
    | int i => exact ⟨i, rep_int r, p1 w1 H1 st1 (.refl w1) _ rep_int'⟩
    | _ => exact False.elim p1)⟩
def mulB (i j : Int) : Bool := bBnd i 18446744073709551615 || bBnd j 18446744073709551615
def powB (i j : Int) : Bool := decide (0 ≤ j) && (bBnd j 1000000 && bBnd i 18446744073709551615)
def divB (_ j : Int) : Bool := decide (j ≠ 0) && decide (j.natAbs < 1073741824)
theorem mulB_ok (i j : Int) (h : mulB i j = true) : CMul i j := by
  unfold mulB at h
  simp only [Bool.or_eq_true, bBnd_iff] at h
  unfold CMul
  omega
theorem powB_ok (i j : Int) (h : powB i j = true) : CPow i j := by
  unfold powB at h
  simp only [Bool.and_eq_true, decide_eq_true_eq, bBnd_iff] at h
  unfold CPow
  omega
theorem divB_ok (i j : Int) (h : divB i j = true) : CDivN i j := by
  unfold divB at h
  simp only [Bool.and_eq_true, decide_eq_true_eq] at h
  exact h
def iAdd := fI (fun i j => .int (i + j)) fun _ _ => true
def iSub := fI (fun i j => .int (i - j)) fun _ _ => true
def iMul := fI (fun i j => .int (i * j)) mulB
def iDiv := fI (fun i j => .int (i.fdiv j)) divB
def iMod := fI (fun i j => .int (i.fmod j)) fun _ j => decide (j ≠ 0)
def iPow := fI (fun i j => .int (i ^ j.toNat)) powB
def iShl := fI (fun i j => .int (i * 2 ^ j.toNat)) powB
def iShr := fI (fun i j => .int (i / 2 ^ j.toNat)) fun _ j => decide (0 ≤ j)
def iAnd := fI (fun i j => .int (Builtin.bitAnd i j)) fun _ _ => true
def iXor := fI (fun i j => .int (Builtin.bitXor i j)) fun _ _ => true
def iLt := fI (fun i j => .bl (decide (i < j))) fun _ _ => true
def iLe := fI (fun i j => .bl (decide (i ≤ j))) fun _ _ => true
def iGt := fI (fun i j => .bl (decide (j < i))) fun _ _ => true
def iGe := fI (fun i j => .bl (decide (j ≤ i))) fun _ _ => true
theorem od_sub {g : Gam} : OpD g (rI0 fun i j => .int (i - j)) iSub := od_I0 fun _ _ _ => rep_int'
theorem od_mul {g : Gam} : OpD g (rI CMul fun i j => .int (i * j)) iMul := od_I mulB_ok fun _ _ _ => rep_int'
theorem od_div {g : Gam} : OpD g (rI CDivN fun i j => .int (i.fdiv j)) iDiv := od_I divB_ok fun _ _ _ => rep_int'
theorem od_mod {g : Gam} : OpD g (rI (fun _ j => j ≠ 0) fun i j => .int (i.fmod j)) iMod := od_I (fun _ _ h => of_decide_eq_true h) fun _ _ _ => rep_int'
theorem od_pow {g : Gam} : OpD g (rI CPow fun i j => .int (i ^ j.toNat)) iPow := od_I powB_ok fun _ _ _ => rep_int'
theorem od_shl {g : Gam} : OpD g (rI CPow fun i j => .int (i * 2 ^ j.toNat)) iShl := od_I powB_ok fun _ _ _ => rep_int'
theorem od_shr {g : Gam} : OpD g (rI (fun _ j => 0 ≤ j) fun i j => .int (i / 2 ^ j.toNat)) iShr := od_I (fun _ _ h => of_decide_eq_true h) fun _ _ _ => rep_int'
theorem od_and {g : Gam} : OpD g (rI0 fun i j => .int (Builtin.bitAnd i j)) iAnd := od_I0 fun _ _ _ => rep_int'
theorem od_xor {g : Gam} : OpD g (rI0 fun i j => .int (Builtin.bitXor i j)) iXor := od_I0 fun _ _ _ => rep_int'
theorem od_lt {g : Gam} : OpD g (rI0 fun i j => .bl (decide (i < j))) iLt := od_I0 fun _ _ _ => rep_bl'
theorem od_le {g : Gam} : OpD g (rI0 fun i j => .bl (decide (i ≤ j))) iLe := od_I0 fun _ _ _ => rep_bl'
theorem od_gt {g : Gam} : OpD g (rI0 fun i j => .bl (decide (j < i))) iGt := od_I0 fun _ _ _ => rep_bl'
theorem od_ge {g : Gam} : OpD g (rI0 fun i j => .bl (decide (j ≤ i))) iGe := od_I0 fun _ _ _ => rep_bl'
theorem od_addI {g : Gam} : OpD g (rI0 fun i j => .int (i + j)) iAdd := od_I0 fun _ _ _ => rep_int'
def fCat : Sto → D → D → Option Cell
  | _, .lst xs, .lst ys => if szB (xs.length + ys.length) then some (.lst (xs ++ ys)) else none
  | _, _, _ => none
def OpO (g : Gam) (r : R2) (f : Sto → D → D → Option Cell) : Prop := ∀ w H S d1 d2 v1 v2 c (Q : VK), Ok g w H S → Rep g w d1 v1 → Rep g w d2 v2 → f S d1 d2 = some c → (∀ p o, H p = none → (∀ ps, o ≠ .tbl ps) → CellR g w (upd H p o) p c → Q (.ref p) (upd H p o)) → r v1 v2 H Q
theorem oo_cat {g : Gam} : OpO g rCat fCat := fun w H S d1 d2 v1 v2 c Q k r1 r2 e q => by
  unfold fCat at e
  split at e
  · split at e
    · rename_i xs ys z
      cases e
      obtain ⟨a, us, x1, x2, x3⟩ := rep_lst r1
      obtain ⟨b, ws, y1, y2, y3⟩ := rep_lst r2
      exact ⟨a, b, us, ws, x1, y1, k.ex _ _ x2, k.ex _ _ y2, by rw [← x3.len, ← y3.len]; exact szB_le z, fun l hl => q l _ hl nt_lst ⟨_, upd_same, x3.append_ y3⟩⟩
    · cases e
  · cases e
theorem OpO.d {g : Gam} {r : R2} {f : Sto → D → D → Option Cell} (h : OpO g r f) : OpD g r (fun S a b => (f S a b).map Cell.d) := fun w H S d1 d2 v1 v2 d Q k r1 r2 e q => by
  have e : Option.map Cell.d (f S d1 d2) = some d := e
  cases z : f S d1 d2 with
  | none => rw [z] at e; cases e
  | some c =>
    rw [z] at e
    cases e
    refine h w H S d1 d2 v1 v2 c Q k r1 r2 z fun p o hp nt hc => ?_
    refine q _ _ _ (Grow.one hp nt) ?_
    have le := Grow.le (Grow.one (w := w) hp nt) k
    cases c with
    | lst ds =>
      obtain ⟨vs, e1, e2⟩ := hc
      rw [upd_same] at e1
      unfold Cell.d Rep
      exact ⟨p, vs, rfl, by show upd w.G p o p = _; rw [upd_same]; exact e1, e2.mono le⟩
    | ins cc fs =>
      obtain ⟨dx, gs, e1, e2⟩ := hc
      rw [upd_same] at e1
      unfold Cell.d Rep
      exact ⟨p, dx, gs, rfl, by show upd w.G p o p = _; rw [upd_same]; exact e1, e2.mono le⟩
    | dic ks =>
      obtain ⟨gs, e1, e2⟩ := hc
      rw [upd_same] at e1
      unfold Cell.d Rep
      exact ⟨p, gs, rfl, .inl (by show upd w.G p o p = _; rw [upd_same]; exact e1), e2.mono le⟩
    | lck ks =>
      obtain ⟨o', gs, e1, e2⟩ := hc
      rw [upd_same] at e1
      unfold Cell.d Rep
      exact ⟨p, gs, rfl, .inr ⟨o', by show upd w.G p o p = _; rw [upd_same]; exact e1⟩, e2.mono le⟩
    | mem ks =>
      unfold Cell.d Rep
      exact ⟨p, rfl⟩
    | lkl ks =>
      unfold Cell.d Rep
      exact ⟨p, rfl⟩
    | tdc ks =>
      have e1 : upd H p o p = some (.dT (tdV ks)) := hc
      rw [upd_same] at e1
      unfold Cell.d Rep
      exact ⟨p, rfl, by show upd w.G p o p = _; rw [upd_same]; exact e1⟩
def fAddS : Sto → D → D → Option D
  | _, .str x, .str y => if szB (x.length + y.length) then some (.str (x ++ y)) else none
  | _, _, _ => none
theorem od_addS {g : Gam} : OpD g (fun x y H Q => ∃ i j, x = .str i ∧ y = .str j ∧ i.length + j.length ≤ sizeLine ∧ Q (.str (i ++ j)) H) fAddS := fun w H S d1 d2 v1 v2 d Q k r1 r2 e q => by
  unfold fAddS at e
  split at e
  · split at e
    · rename_i x y z
      cases e
      exact ⟨x, y, rep_str r1, rep_str r2, szB_le z, q w H _ .refl rep_str'⟩
    · cases e
  · cases e
def fCatD : Sto → D → D → Option D := fun S a b => (fCat S a b).map Cell.d
def dAdd : Sto → D → D → Option D := fun S a b => (iAdd S a b).or (fCatD S a b)
theorem od_add {g : Gam} : OpD g (fun x y H Q => rI0 (fun i j => .int (i + j)) x y H Q ∨ rCat x y H Q) dAdd := od_addI.or oo_cat.d
theorem op_addD : OpR X (binaryOp .Add) (fun x y H Q => rI0 (fun i j => .int (i + j)) x y H Q ∨ rCat x y H Q) := OpR.or op_add op_cat
def fIx : Sto → D → D → Option D
  | _, .lst xs, .int i => atI xs i
  | _, .tup xs, .int i => atI xs i
  | S, .ref n, .int i => (match S[n]? with
    | some (.lst xs) => atI xs i
    | _ => none)
  | _, _, _ => none
theorem RepL.atI_ {g : Gam} {w : Wd} {ds : List D} {vs : List V} {i : Int} {d : D} (r : RepL g w ds vs) (h : atI ds i = some d) : ∃ v, atI vs i = some v ∧ Rep g w d v := by
  unfold atI at h ⊢
  rw [r.len] at h
  cases z : ixN vs.length i with
  | none => rw [z] at h; cases h
  | some j =>
    rw [z] at h
    exact r.at_ h
theorem od_ix {g : Gam} : OpD g (fun x y H Q => rIxL g.K x y H Q ∨ rIxT g.K x y H Q) fIx := fun w H S d1 d2 v1 v2 d Q k r1 r2 e q => by
  unfold fIx at e
  split at e
  · rename_i xs i
    obtain ⟨a, us, x1, x2, x3⟩ := rep_lst r1
    obtain ⟨v, e1, e2⟩ := x3.atI_ e
    exact .inl ⟨a, us, i, v, x1, rep_int r2, .inl (.inl (k.ex _ _ x2)), e1, q w H _ .refl e2⟩
  · rename_i xs i
    obtain ⟨a, us, x1, x2, x3⟩ := rep_tup r1
    obtain ⟨v, e1, e2⟩ := x3.atI_ e
    exact .inr ⟨a, us, i, v, x1, rep_int r2, same_sqT k.ex x2, e1, q w H _ .refl e2⟩
  · rename_i n i
    split at e
    · rename_i xs hS
      obtain ⟨a, us, x1, x2, x3, x4⟩ := cell_lst k r1 hS
      obtain ⟨v, e1, e2⟩ := x4.atI_ e
      exact .inl ⟨a, us, i, v, x1, rep_int r2, .inl (.inl x3), e1, q w H _ .refl e2⟩
    · cases e
  · cases e
theorem ix_lt : IxR X (fun x y H Q => rIxL X.K x y H Q ∨ rIxT X.K x y H Q) := ix_list.or ix_tup
end
end Mm
namespace Mm
open PySem L2
section
variable {X : Cx} {Y : Gam} {W : WX} {e a b c tg iter elt : Expr} {es rest ifs : List Expr} {ta tb te : TE} {tt tu : TT} {ma mb me : ME} {mt mu : MT} {mf : MF} {t : TA} {m : MA} {pos p : Pos} {s : Stmt} {ss : List Stmt} {t1 t2 : TS} {m1 m2 : MS} {wi : TI} {mi : MI} {x : Str}
mutual
def D.py : D → Option PyData
  | .non => some .none
  | .bl b => some (.bool b)
  | .int i => some (.int i)
  | .str x => some (.str x)
  | .lst ds => (pyAll ds).map .list
  | .tup ds => (pyAll ds).map .tuple
  | _ => none
def pyAll : List D → Option (List PyData)
  | [] => some []
  | d :: ds => match d.py, pyAll ds with
    | some x, some xs => some (x :: xs)
    | _, _ => none
end
mutual
theorem rep_py {g : Gam} {w : Wd} : ∀ {d : D} {v : V} {q : PyData}, Rep g w d v → d.py = some q → Dp g.K w.G v q
  | .non, v, q, r, h => by
    unfold D.py at h
    cases h
    rw [rep_non r]
    exact .non
  | .bl b, v, q, r, h => by
    unfold D.py at h
    cases h
    rw [rep_bl r]
    exact .bl b
  | .int b, v, q, r, h => by
    unfold D.py at h
    cases h
    rw [rep_int r]
    exact .int b
  | .str b, v, q, r, h => by
    unfold D.py at h
    cases h
    rw [rep_str r]
    exact .str b
  | .lst ds, v, q, r, h => by
    unfold D.py at h
    obtain ⟨a, vs, e1, e2, e3⟩ := rep_lst r
    cases z : pyAll ds with
    | none => rw [z] at h; cases h
    | some xs =>
      rw [z] at h
      cases h
      rw [e1]
      exact .lst (.inl (.inl e2)) (repL_py e3 z)
  | .tup ds, v, q, r, h => by
    unfold D.py at h
    obtain ⟨a, vs, e1, e2, e3⟩ := rep_tup r
    cases z : pyAll ds with
    | none => rw [z] at h; cases h
    | some xs =>
      rw [z] at h
      cases h
      rw [e1]
      exact .tup e2 (repL_py e3 z)
  | .ins _ _, v, q, r, h => by unfold D.py at h; cases h
  | .ref _, v, q, r, h => by unfold D.py at h; cases h
  | .scr _, v, q, r, h => by unfold D.py at h; cases h
  | .ty _, v, q, r, h => by unfold D.py at h; cases h
  | .cls _, v, q, r, h => by unfold D.py at h; cases h
  | .adr _, v, q, r, h => by unfold D.py at h; cases h
  | .set _, v, q, r, h => by unfold D.py at h; cases h
  | .dic _, v, q, r, h => by unfold D.py at h; cases h
  | .tdc _, v, q, r, h => by unfold D.py at h; cases h
  | .tds _, v, q, r, h => by unfold D.py at h; cases h
  | .any, v, q, r, h => by unfold D.py at h; cases h
  | .dno _, v, q, r, h => by unfold D.py at h; cases h
theorem repL_py {g : Gam} {w : Wd} : ∀ {ds : List D} {vs : List V} {qs : List PyData}, RepL g w ds vs → pyAll ds = some qs → DpAll g.K w.G vs qs
  | [], vs, qs, r, h => by
    unfold pyAll at h
    unfold RepL at r
    cases h
    rw [r]
    exact .nil
  | d :: ds, vs, qs, r, h => by
    unfold pyAll at h
    unfold RepL at r
    obtain ⟨v, vr, e1, e2, e3⟩ := r
    cases z : d.py with
    | none => rw [z] at h; cases h
    | some x =>
      cases y : pyAll ds with
      | none => rw [z, y] at h; cases h
      | some xs =>
        rw [z, y] at h
        cases h
        rw [e1]
        exact .cons (rep_py e2 z) (repL_py e3 y)
end
mutual
theorem Dp.same {K : PySem.W.Frag} {H H' : Hp} (e : Same H H') : ∀ {v : V} {q : PyData}, Dp K H v q → Dp K H' v q
  | _, _, .non => .non
  | _, _, .bl b => .bl b
  | _, _, .int b => .int b
  | _, _, .str b => .str b
  | _, _, .lst s a => .lst (e.seq s) (DpAll.same e a)
  | _, _, .tup s a => .tup (same_sqT e s) (DpAll.same e a)
theorem DpAll.same {K : PySem.W.Frag} {H H' : Hp} (e : Same H H') : ∀ {v : List V} {q : List PyData}, DpAll K H v q → DpAll K H' v q
  | _, _, .nil => .nil
  | _, _, .cons a b => .cons (Dp.same e a) (DpAll.same e b)
end
def fEq : Sto → D → D → Option D := fun _ a b => match a.py, b.py with
  | some x, some y => if SeqAt.shaped x && SeqAt.shaped y then some (.bl (PyData.eqv x y)) else none
  | _, _ => none
def fNe : Sto → D → D → Option D := fun _ a b => match a.py, b.py with
  | some x, some y => if SeqAt.shaped x && SeqAt.shaped y then some (.bl (!PyData.eqv x y)) else none
  | _, _ => none
theorem od_eq {g : Gam} : OpD g (rEqD g.K) fEq := fun w H S d1 d2 v1 v2 d Q k r1 r2 e q => by
  unfold fEq at e
  split at e
  · rename_i x y z1 z2
    split at e
    · rename_i z
      rw [Bool.and_eq_true] at z
      cases e
      exact ⟨x, y, Dp.same k.ex (rep_py r1 z1), Dp.same k.ex (rep_py r2 z2), z.1, z.2, q w H _ .refl rep_bl'⟩
    · cases e
  · cases e
theorem od_ne {g : Gam} : OpD g (rNeD g.K) fNe := fun w H S d1 d2 v1 v2 d Q k r1 r2 e q => by
  unfold fNe at e
  split at e
  · rename_i x y z1 z2
    split at e
    · rename_i z
      rw [Bool.and_eq_true] at z
      cases e
      exact ⟨x, y, Dp.same k.ex (rep_py r1 z1), Dp.same k.ex (rep_py r2 z2), z.1, z.2, q w H _ .refl rep_bl'⟩
    · cases e
  · cases e
def D.isN : D → Bool
  | .non => true
  | _ => false
theorem rep_isN {g : Gam} {w : Wd} {d : D} {v : V} (r : Rep g w d v) : decide (v = .non) = d.isN := by
  cases d with
  | non => rw [rep_non r]; rfl
  | bl b => rw [rep_bl r]; rfl
  | int b => rw [rep_int r]; rfl
  | str b => rw [rep_str r]; rfl
  | lst ds => obtain ⟨a, vs, e1, _⟩ := rep_lst r; rw [e1]; rfl
  | tup ds => obtain ⟨a, vs, e1, _⟩ := rep_tup r; rw [e1]; rfl
  | ins c fs => unfold Rep at r; obtain ⟨a, _, _, e1, _⟩ := r; rw [e1]; rfl
  | ref n => obtain ⟨a, _, e1⟩ := rep_ref r; rw [e1]; rfl
  | scr n => unfold Rep at r; obtain ⟨a, e1, _⟩ := r; rw [e1]; rfl
  | ty n => unfold Rep at r; rw [r]; rfl
  | cls n => unfold Rep at r; rw [r]; rfl
  | adr n => unfold Rep at r; rw [r]; rfl
  | set n => unfold Rep at r; obtain ⟨a, _, e1, _⟩ := r; rw [e1]; rfl
  | dic n => unfold Rep at r; obtain ⟨a, _, e1, _⟩ := r; rw [e1]; rfl
  | tdc n => unfold Rep at r; obtain ⟨a, e1, _⟩ := r; rw [e1]; rfl
  | tds n => unfold Rep at r; obtain ⟨a, e1, _⟩ := r; rw [e1]; rfl
  | any => unfold Rep at r; obtain ⟨a, e1⟩ := r; rw [e1]; rfl
  | dno n => unfold Rep at r; obtain ⟨a, e1, _⟩ := r; rw [e1]; rfl
def fIs : Sto → D → D → Option D
  | _, d, .non => some (.bl d.isN)
  | _, _, _ => none
def fIsNot : Sto → D → D → Option D
  | _, d, .non => some (.bl (!d.isN))
  | _, _, _ => none
theorem od_isnot {g : Gam} : OpD g (fun x y H Q => y = .non ∧ Q (.bl (!decide (x = .non))) H) fIsNot := fun w H S d1 d2 v1 v2 d Q k r1 r2 e q => by
  unfold fIsNot at e
  split at e
  · cases e
    exact ⟨rep_non r2, q w H _ .refl (by rw [rep_isN r1]; exact rep_bl')⟩
  · cases e
def fIn (neg : Bool) : Sto → D → D → Option D
  | _, .int i, .lst ds => (intsOf ds).map fun ns => .bl (if neg then !decide (i ∈ ns) else decide (i ∈ ns))
  | _, .int i, .tup ds => (intsOf ds).map fun ns => .bl (if neg then !decide (i ∈ ns) else decide (i ∈ ns))
  | _, _, _ => none
theorem flat_ints (ns : List Int) : (ns.map V.int).all flatV = true := by
  rw [List.all_eq_true]
  intro v hv
  obtain ⟨n, _, rfl⟩ := List.mem_map.mp hv
  rfl
abbrev MO := Envr → Sto → R (Option Int)
def SimO (g : Gam) (W : WX) (t : TO) (m : MO) : Prop := ∀ w0 H0 w H σ env S O (Q : Option Int → Hp → Prop), StR g w0 H0 w H σ env S O →
  PostX g W w0 H0 w σ env O (m env S) (fun o _ w' H' => Q o H') → t σ H Q
structure SO (X : Cx) (Y : Gam) (W : WX) (e : Option Expr) (t : TO) (m : MO) : Prop where
  po : PO X e t
  sim : SimO Y W t m
def oNone : MO := fun _ S => .ok none S
def oSome (me : ME) : MO := fun env S => (me env S).bind fun d S1 => match d with
  | .int i => .ok (some i) S1
  | _ => .stuck
theorem o_none : SO X Y W none tNoPart oNone := ⟨po_none, fun w0 H0 w H σ env S O Q st p => p w H st (.refl w)⟩
theorem o_some (h : SE X Y W e te me) : SO X Y W (some e) (tPart te) (oSome me) := ⟨po_some h.pe, fun w0 H0 w H σ env S O Q st p =>
  h.sim w0 H0 w H σ env S O _ st ((PostX.bind p).imp fun d S1 w1 H1 st1 l1 p1 v r => by
    cases d with
    | int i => exact ⟨i, rep_int r, p1 w1 H1 st1 (.refl w1)⟩
    | _ => exact False.elim p1)⟩
def cutD (xs : List D) (lo hi : Option Int) : List D := (xs.drop (HT.sIx xs.length 0 lo)).take (HT.sIx xs.length xs.length hi - HT.sIx xs.length 0 lo)
theorem rep_cut {g : Gam} {w : Wd} {ds : List D} {vs : List V} (r : RepL g w ds vs) (lo hi : Option Int) : RepL g w (cutD ds lo hi) (cutV vs lo hi) := by
  unfold cutD cutV
  rw [r.len]
  exact (r.drop_ _).take_ _
def fSl (me : ME) (ml mh : MO) : MF := fun env S => (me env S).bind fun d S1 => (ml env S1).bind fun lo S2 => (mh env S2).bind fun hi S3 => match d with
  | .lst ds => .ok (.lst (cutD ds lo hi)) S3
  | .scr ns => .ok (.lst (cutD (ns.map D.int) lo hi)) S3
  | _ => .stuck
theorem f_sl {lo hi : Option Expr} {tl th : TO} {ml mh : MO} {p2 : Pos} (he : SE X Y W e te me) (hl : SO X Y W lo tl ml) (hh : SO X Y W hi th mh) (hK : X.K = Y.K := by rfl) : SF X Y W (.Subscript e (.Slice lo hi none p2) pos) (tSl (rSlL Y.K) te tl th) (fSl me ml mh) := ⟨hK ▸ pe_slice sl_list he.pe hl.po hh.po, fun w0 H0 w H σ env S O Q st p =>
  he.sim w0 H0 w H σ env S O _ st ((PostX.bind p).imp fun d S1 w1 H1 st1 l1 p1 v r => hl.sim w0 H0 w1 H1 σ env S1 O _ st1 ((PostX.bind p1).imp fun lo S2 w2 H2 st2 l2 p2 => hh.sim w0 H0 w2 H2 σ env S2 O _ st2 ((PostX.bind p2).imp fun hi S3 w3 H3 st3 l3 p3 => by
    cases d with
    | lst ds =>
      obtain ⟨a, vs, e1, e2, e3⟩ := rep_lst (r.mono (l2.trans l3))
      exact ⟨a, vs, e1, .inl (.inl (st3.ok.ex _ _ e2)), fun q hq => p3 w3 _ (st3.lay hq nt_lst) (.refl w3) q (st3.own_new hq ⟨_, upd_same, rep_cut e3 lo hi⟩)⟩
    | scr ns =>
      have r3 := r.mono (l2.trans l3)
      unfold Rep at r3
      obtain ⟨a, e1, e2⟩ := r3
      exact ⟨a, _, e1, st3.ok.ex.seq e2, fun q hq => p3 w3 _ (st3.lay hq nt_lst) (.refl w3) q (st3.own_new hq ⟨_, upd_same, rep_cut (RepL.ints ns) lo hi⟩)⟩
    | _ => exact False.elim p3)))⟩
def sApp (i : Nat) (me : ME) : MS := fun env S => match env[i]? with
  | some (.o (.lst ds)) => (me env S).out env fun d S1 => if szB (ds.length + 1) then .nx (env.set i (.o (.lst (ds ++ [d])))) S1 else .stuck
  | _ => .stuck
theorem tyV_lst {K : PySem.W.Frag} {H : Hp} {p : Addr} {vs : List V} (h : H p = some (.lst vs)) : tyV K "list" (.ref p) H := .inl ⟨rfl, vs, .inl (.inl h)⟩
theorem t_app (i : Nat) {x : Str} {p1 apos cpos : Pos} (he : SE X Y W e te me) (hK : X.K = Y.K := by rfl) (hN : X.N[i]? = some x := by rfl) (hv : Vis X.env.scope x := by first | exact Or.inl rfl | exact Or.inr (Or.inl rfl) | exact Or.inr (Or.inr rfl)) (hd : (x == ("__debug__" : Str)) = false := by decide)
    (hcd : (x == ("__classdict__" : Str)) = false := by decide) (hbase : attributeBase (.Name x p1) "append" X.env (eval (.Name x p1) X.env) = eval (.Name x p1) X.env := by rfl)
    (hfew : ((backTo cpos (starEach [e] X.env)).all (fun x => !x.1) && (backToKw cpos (keywordEach [] X.env)).all (fun x => x.1.isSome)
      && decide ([e].length + ([] : List Keyword).length + (if ([] : List Keyword).isEmpty then 0 else 1) < 30)) = true := by rfl)
    (hline : (apos.endLine == cpos.line) = true := by rfl) (hs : starEach [e] X.env = (false, eval e X.env) :: starEach [] X.env := by rfl) (hplain : (backTo cpos (starEach [] X.env)).any (·.1) = false := by rfl)
    (hsw : swapsWith (.Call (.Attribute (.Name x p1) "append" apos) [e] [] cpos) none pos.line X.env = pure false := by rfl) :
    SS X Y W (.Expr (.Call (.Attribute (.Name x p1) "append" apos) [e] [] cpos) pos) (tDrop (tBM Y.K "list" rAppend (tVar i) (tCons te tNil))) (sApp i me) :=
  ⟨hK ▸ ps_expr (pe_bm PySem.F.plainAttrs_list PySem.F.slot_list_append PySem.F.type_list_append mt_append (pv i hN hv hd hcd) (pa_cons he.pe pa_nil hs) hbase hfew hline hs hplain) hsw, fun w0 H0 w H σ env S O Dn st p => by
    unfold sApp at p
    split at p
    · rename_i ds hs
      obtain ⟨q, e1, e2, e3, ⟨vs, e4, e4'⟩, e5, e6, hi⟩ := st.own_at hs
      refine ⟨.ref q, e1, tyV_lst e4, ?_⟩
      refine he.sim w0 H0 w H σ env S O _ st ((PostS.out p).imp fun d S1 w1 H1 st1 l1 p1 v r => ?_)
      split at p1
      · rename_i hz
        obtain ⟨q', f1, f2, f3, ⟨us, f4, f4'⟩, f5, f6, _⟩ := st1.own_at hs
        rw [e2] at f2
        cases f2
        have hz2 : us.length < sizeLine := Nat.lt_of_lt_of_le (by rw [← f4'.len]; exact Nat.lt_succ_self _) (szB_le hz)
        refine ⟨q, us, v, rfl, rfl, f4, hz2, ?_⟩
        exact p1 w1 _ σ O (st1.mut hs e2 ⟨_, upd_same, f4'.append_ (RepL.cons_ r RepL.nil_)⟩ nt_lst) (.refl w1)
      · exact False.elim p1
    · exact p.elim⟩
def sIns (i : Nat) (mk me : ME) : MS := fun env S => match env[i]? with
  | some (.o (.lst ds)) => (mk env S).out env fun k S1 => (me env S1).out env fun d S2 => match k with
    | .int k => if decide (0 ≤ k) && (bBnd k 9223372036854775807 && szB (ds.length + 1)) then .nx (env.set i (.o (.lst (ds.take k.toNat ++ [d] ++ ds.drop k.toNat)))) S2 else .stuck
    | _ => .stuck
  | _ => .stuck
theorem t_ins (i : Nat) {x : Str} {p1 apos cpos : Pos} (hk : SE X Y W a ta ma) (he : SE X Y W e te me) (hK : X.K = Y.K := by rfl) (hN : X.N[i]? = some x := by rfl) (hv : Vis X.env.scope x := by first | exact Or.inl rfl | exact Or.inr (Or.inl rfl) | exact Or.inr (Or.inr rfl)) (hd : (x == ("__debug__" : Str)) = false := by decide)
    (hcd : (x == ("__classdict__" : Str)) = false := by decide) (hbase : attributeBase (.Name x p1) "insert" X.env (eval (.Name x p1) X.env) = eval (.Name x p1) X.env := by rfl)
    (hfew : ((backTo cpos (starEach [a, e] X.env)).all (fun x => !x.1) && (backToKw cpos (keywordEach [] X.env)).all (fun x => x.1.isSome)
      && decide ([a, e].length + ([] : List Keyword).length + (if ([] : List Keyword).isEmpty then 0 else 1) < 30)) = true := by rfl)
    (hline : (apos.endLine == cpos.line) = true := by rfl) (hs : starEach [a, e] X.env = (false, eval a X.env) :: starEach [e] X.env := by rfl) (hs2 : starEach [e] X.env = (false, eval e X.env) :: starEach [] X.env := by rfl) (hplain : (backTo cpos (starEach [e] X.env)).any (·.1) = false := by rfl)
    (hsw : swapsWith (.Call (.Attribute (.Name x p1) "insert" apos) [a, e] [] cpos) none pos.line X.env = pure false := by rfl) :
    SS X Y W (.Expr (.Call (.Attribute (.Name x p1) "insert" apos) [a, e] [] cpos) pos) (tDrop (tBM Y.K "list" (fun x vs H Q => ∃ (l : Addr) (xs : List V) (i : Int) (y : V), x = .ref l ∧ vs = [.int i, y] ∧ H l = some (.lst xs) ∧ xs.length < sizeLine ∧ 0 ≤ i ∧ i < 2 ^ 63 ∧
    Q .non (upd H l (.lst (xs.take i.toNat ++ [y] ++ xs.drop i.toNat)))) (tVar i) (tCons ta (tCons te tNil)))) (sIns i ma me) :=
  ⟨hK ▸ ps_expr (pe_bm PySem.F.plainAttrs_list PySem.F.slot_list_insert PySem.F.type_list_insert mt_insert (pv i hN hv hd hcd) (pa_cons hk.pe (pa_cons he.pe pa_nil hs2) hs) hbase hfew hline hs hplain) hsw, fun w0 H0 w H σ env S O Dn st p => by
    unfold sIns at p
    split at p
    · rename_i ds hs
      obtain ⟨q, e1, e2, e3, ⟨vs, e4, e4'⟩, e5, e6, hi⟩ := st.own_at hs
      refine ⟨.ref q, e1, tyV_lst e4, ?_⟩
      refine hk.sim w0 H0 w H σ env S O _ st ((PostS.out p).imp fun k S1 w1 H1 st1 l1 p1 kv kr => ?_)
      refine he.sim w0 H0 w1 H1 σ env S1 O _ st1 ((PostS.out p1).imp fun d S2 w2 H2 st2 l2 p2 v r => ?_)
      cases k with
      | int k =>
        simp only at p2
        split at p2
        · rename_i hz
          simp only [Bool.and_eq_true, decide_eq_true_eq, bBnd_iff] at hz
          obtain ⟨q', f1, f2, f3, ⟨us, f4, f4'⟩, f5, f6, _⟩ := st2.own_at hs
          rw [e2] at f2
          cases f2
          have hz2 : us.length < sizeLine := Nat.lt_of_lt_of_le (by rw [← f4'.len]; exact Nat.lt_succ_self _) (szB_le hz.2.2)
          refine ⟨q, us, k, v, rfl, by rw [rep_int kr], f4, hz2, hz.1, by have := hz.1; have := hz.2.1; omega, ?_⟩
          exact p2 w2 _ σ O (st2.mut hs e2 ⟨_, upd_same, ((f4'.take_ _).append_ (RepL.cons_ r RepL.nil_)).append_ (f4'.drop_ _)⟩ nt_lst) (.refl w2)
        · exact False.elim p2
      | _ => exact False.elim p2
    · exact p.elim⟩
def sPut (i : Nat) (mk me : ME) : MS := fun env S => (me env S).out env fun d S1 => match env[i]? with
  | some (.o (.lst ds)) => (mk env S1).out env fun k S2 => (match k with
    | .int k => (match ixN ds.length k with
      | some j => .nx (env.set i (.o (.lst (ds.set j d)))) S2
      | none => .stuck)
    | _ => .stuck)
  | some (.v (.ref n)) => (mk env S1).out env fun k S2 => (match S2[n]?, k with
    | some (.lst ds), .int k => (match ixN ds.length k with
      | some j => .nx env (S2.set n (.lst (ds.set j d)))
      | none => .stuck)
    | _, _ => .stuck)
  | _ => .stuck
theorem sim_put {g : Gam} {i : Nat} (hk : SimE g W ta ma) (he : SimE g W te me) : SimS g W (tAsg te (gSub (tVar i) ta rSetL)) (sPut i ma me) := fun w0 H0 w H σ env S O Dn st p => by
  refine he w0 H0 w H σ env S O _ st ((PostS.out p).imp fun d S1 w1 H1 st1 l1 p1 v r => ?_)
  split at p1
  · rename_i ds hs
    obtain ⟨q, e1, e2, e3, e4, e5, e6, hi⟩ := st1.own_at hs
    refine ⟨.ref q, e1, ?_⟩
    refine hk w0 H0 w1 H1 σ env S1 O _ st1 ((PostS.out p1).imp fun k S2 w2 H2 st2 l2 p2 kv kr => ?_)
    split at p2
    · rename_i k
      split at p2
      · rename_i j hj
        obtain ⟨q', f1, f2, f3, ⟨us, f4, f4'⟩, f5, f6, _⟩ := st2.own_at hs
        rw [e2] at f2
        cases f2
        refine ⟨q, us, k, j, rfl, rep_int kr, f4, by rw [← f4'.len]; exact hj, ?_⟩
        exact p2 w2 _ σ O (st2.mut hs e2 ⟨_, upd_same, f4'.set_ (r.mono l2) j⟩ nt_lst) (.refl w2)
      · exact False.elim p2
    · exact False.elim p2
  · rename_i n hs
    have hi : i < σ.length := by
      rw [← st1.l1]
      exact (List.getElem?_eq_some_iff.mp hs).1
    have hO : i < O.length := by
      rw [st1.l2]
      exact hi
    obtain ⟨_, x, ex, rx⟩ := st1.sl i (.v (.ref n)) σ[i] O[i] hs (List.getElem?_eq_getElem hi) (List.getElem?_eq_getElem hO)
    refine ⟨x, by rw [List.getElem?_eq_getElem hi, ex], ?_⟩
    refine hk w0 H0 w1 H1 σ env S1 O _ st1 ((PostS.out p1).imp fun k S2 w2 H2 st2 l2 p2 kv kr => ?_)
    split at p2
    · rename_i ds k hS
      split at p2
      · rename_i j hj
        obtain ⟨a, us, x1, x2, x3, x4⟩ := cell_lst st2.ok (rx.mono l2) hS
        refine ⟨a, us, k, j, x1, rep_int kr, x3, by rw [← x4.len]; exact hj, ?_⟩
        obtain ⟨k3, f3⟩ := ok_cell (c' := .lst (ds.set j d)) st2.ok x2 hS (o := .lst (us.set j v)) ⟨_, upd_same, x4.set_ (r.mono l2) j⟩ nt_lst
        exact p2 w2 _ σ O (st2.after f3 k3) (.refl w2)
      · exact False.elim p2
    · exact False.elim p2
  · exact p1.elim
theorem t_put (i : Nat) {x : Str} {p1 p2 : Pos} (hk : SE X Y W a ta ma) (he : SE X Y W e te me) (hN : X.N[i]? = some x := by rfl) (hv : Vis X.env.scope x := by first | exact Or.inl rfl | exact Or.inr (Or.inl rfl) | exact Or.inr (Or.inr rfl)) (hd : (x == ("__debug__" : Str)) = false := by decide)
    (hcd : (x == ("__classdict__" : Str)) = false := by decide) (ha : ∀ v, assign (.Subscript (.Name x p1) a p2) X.env v = (do
      let ov ← holding [v] (eval (.Name x p1) X.env)
      let iv ← holding [v, ov] (eval a X.env)
      standAt p2
      holding [v, ov, iv] (setItem ov iv v)
      release [v, ov, iv] []) := by intro _; rfl) (hs : swapsWithSole [.Subscript (.Name x p1) a p2] e pos.line X.env = pure false := by rfl) (hw : swappedStores [.Subscript (.Name x p1) a p2] e X.env = pure none := by rfl)
    (h1 : (assignEach [.Subscript (.Name x p1) a p2] X.env).map (·.2) = [assign (.Subscript (.Name x p1) a p2) X.env] := by rfl) :
    SS X Y W (.Assign [.Subscript (.Name x p1) a p2] e pos) (tAsg te (gSub (tVar i) ta rSetL)) (sPut i ma me) := ⟨ps_asg he.pe (pg_sub (pv i hN hv hd hcd) hk.pe set_list ha) hs hw h1, sim_put hk.sim he.sim⟩
def sAug (i : Nat) (f : Int → Int → Int) (me : ME) : MS := fun env S => match env[i]? with
  | some (.v (.int k)) => (me env S).out env fun d S1 => (match d with
    | .int j => .nx (env.set i (.v (.int (f k j)))) S1
    | _ => .stuck)
  | _ => .stuck
theorem t_aug {i : Nat} {x : Str} {op : Operator} {f : Int → Int → Int} {pos' : Pos} (hN : X.N.Nodup) (hi : X.N[i]? = some x) (hx : Loc X.env.scope x) (ho : PIp X op (ipI f)) (he : SE X Y W e te me) (hf : X.fn x = true ∨ X.env.scope.names.lookup x = some .local := by first | exact .inl rfl | exact .inr rfl | assumption) :
    SS X Y W (.AugAssign (.Name x pos') op e pos) (tAug i te (ipI f)) (sAug i f me) := ⟨ps_aug hN hi hx he.pe ho hf, fun w0 H0 w H σ env S O Dn st p => by
  unfold sAug at p
  split at p
  · rename_i k hs
    have hi : i < σ.length := by
      rw [← st.l1]
      exact (List.getElem?_eq_some_iff.mp hs).1
    have hO : i < O.length := by
      rw [st.l2]
      exact hi
    obtain ⟨_, x, ex, rx⟩ := st.sl i (.v (.int k)) σ[i] O[i] hs (List.getElem?_eq_getElem hi) (List.getElem?_eq_getElem hO)
    refine ⟨x, by rw [List.getElem?_eq_getElem hi, ex], ?_⟩
    refine he.sim w0 H0 w H σ env S O _ st ((PostS.out p).imp fun d S1 w1 H1 st1 l1 p1 v r => ?_)
    split at p1
    · rename_i j
      exact ⟨k, j, rep_int rx, rep_int r, p1 w1 H1 _ _ (st1.set_v i rep_int') (.refl w1)⟩
    · exact False.elim p1
  · exact p.elim⟩
theorem pmk_own0 {C : Addr} {bmB : List Value} {B newId initId : String} (F : ExcBaseFacts B newId initId bmB) (q : PySem.W.excIn X.K C bmB newId = true) (gC : X.mg x = some (.ref C)) (kC : PySem.W.keepIn X.K (.ref C) = true) (r : Raises X (.ref C)) (hg : Gl X x)
    (hdb : (x == ("__debug__" : Str)) = false := by decide) : L2N.PMk X (.Call (.Name x p) [] [] pos) (fun _ H Q => Q (.ref C) none H) := by
  intro pins s σ H Q I h
  refine wpAny_Call_Name_kw (ld_glob I hg gC ?_ hdb)
  refine PySem.W.callWith_K0 I.kIn kC ?_
  show wpAny _ _ (call (.ref C) []) _ _ _
  obtain ⟨bm, N, nm, qn, bs, hdct, sn, sub, ab, col, dd, k0, k1, k2, k3, k5, mN, hC, hN, hni, T⟩ := exc_obj I.kIn q
  refine wpAny_call_exc_subT F T hC hN hni (fun h' e hm => ?_) (by show 0 ≤ sizeLine; exact Nat.zero_le _)
  exact L2N.mk_of I hm r h (I.hok.gone hm.new)
def sRaise (c : Str) : MS := fun env S => .exc c none env S
theorem t_raise {x : Str} {pos' : Pos} (xP : PySem.W.excIn X.K (Y.ca x) [.type "ValueError", .type "Exception", .type "BaseException", .type "object"] "ValueError.__new__" = true) (gP : X.mg x = some (.ref (Y.ca x))) (kP : PySem.W.keepIn X.K (.ref (Y.ca x)) = true)
    (bP : PySem.W.subIn X.K (.ref (Y.ca x)) (.type "BaseException") = some true) (tP : PySem.W.typeIn X.K (.ref (Y.ca x)) = some (.type "type")) (tk : L2N.Takes X W) (hc : X.calm = true := by rfl) (hg : Gl X x := by rfl) (hdb : (x == ("__debug__" : Str)) = false := by decide) :
    SS X Y W (.Raise (some (.Call (.Name x p) [] [] pos)) none pos') (fun _ σ H => W (.ref (Y.ca x)) none σ H) (sRaise x) :=
  ⟨L2N.ps_raise hc tk (pmk_own0 PySem.F.excBase_ValueError xP gP kP (raises_own bP tP) hg hdb), fun w0 H0 w H σ env S O Dn st p => p w H σ O _ _ st (.refl w) ⟨rfl, rfl⟩⟩
end
end Mm
namespace Mm
open PySem L2
def putFD (f : Str) (v : D) : List (Str × D) → List (Str × D)
  | [] => [(f, v)]
  | (g, x) :: r => if g = f then (g, v) :: r else (g, x) :: putFD f v r
theorem RepF.look {g : Gam} {w : Wd} : ∀ {fs : List (Str × D)} {gs : List (Str × V)} {f : Str}, RepF g w fs gs → (∀ d, fs.lookup f = some d → ∃ v, gs.lookup f = some v ∧ Rep g w d v) ∧ (fs.lookup f = none → gs.lookup f = none)
  | [], gs, f, r => by
    unfold RepF at r
    subst r
    exact ⟨fun d h => (by cases h), fun _ => rfl⟩
  | (f', d') :: fs, gs, f, r => by
    unfold RepF at r
    obtain ⟨v, vr, e, a, b⟩ := r
    subst e
    have ih := RepF.look (f := f) b
    rw [List.lookup_cons, List.lookup_cons]
    cases f == f' with
    | true => exact ⟨fun d h => (by cases h; exact ⟨v, rfl, a⟩), fun h => (by cases h)⟩
    | false => exact ih
theorem RepF.put {g : Gam} {w : Wd} {f : Str} {d : D} {v : V} (q : Rep g w d v) : ∀ {fs : List (Str × D)} {gs : List (Str × V)}, RepF g w fs gs → RepF g w (putFD f d fs) (putF f v gs)
  | [], gs, r => by
    unfold RepF at r
    subst r
    unfold putFD putF RepF
    exact ⟨v, [], rfl, q, by unfold RepF; rfl⟩
  | (f', d') :: fs, gs, r => by
    unfold RepF at r
    obtain ⟨u, vr, e, a, b⟩ := r
    subst e
    unfold putFD putF
    by_cases h : f' = f
    · rw [if_pos h, if_pos h]
      unfold RepF
      exact ⟨v, vr, rfl, q, b⟩
    · rw [if_neg h, if_neg h]
      unfold RepF
      exact ⟨u, _, rfl, a, RepF.put q b⟩
theorem RepF.len {g : Gam} {w : Wd} : ∀ {fs : List (Str × D)} {gs : List (Str × V)}, RepF g w fs gs → fs.length = gs.length
  | [], gs, r => by
    unfold RepF at r
    subst r
    rfl
  | (f', d') :: fs, gs, r => by
    unfold RepF at r
    obtain ⟨u, vr, e, a, b⟩ := r
    subst e
    rw [List.length_cons, List.length_cons, RepF.len b]
def insOf (c : Str) (S : Sto) : D → Option (List (Str × D))
  | .ins c' fs => if c' = c then some fs else none
  | .ref n => (match S[n]? with
    | some (.ins c' fs) => if c' = c then some fs else none
    | _ => none)
  | _ => none
theorem insOf_rep {g : Gam} {w : Wd} {H : Hp} {S : Sto} {c : Str} {d : D} {v : V} {fs : List (Str × D)} (k : Ok g w H S) (r : Rep g w d v) (h : insOf c S d = some fs) : ∃ a dx gs, v = .ref a ∧ H a = some (.ins (g.ca c) dx gs) ∧ RepF g w fs gs := by
  unfold insOf at h
  split at h
  · split at h
    · rename_i c' fs' e
      cases h
      subst e
      unfold Rep at r
      obtain ⟨a, dx, gs, e1, e2, e3⟩ := r
      exact ⟨a, dx, gs, e1, k.ex _ _ e2, e3⟩
    · cases h
  · rename_i n
    split at h
    · rename_i c' fs' hS
      split at h
      · rename_i e
        cases h
        subst e
        obtain ⟨a, e1, e2⟩ := rep_ref r
        obtain ⟨_, dx, gs, e3, e4⟩ := k.cells.at_ n a _ e1 hS
        exact ⟨a, dx, gs, e2, e3, e4⟩
      · cases h
    · cases h
  · cases h
section
variable {X : Cx} {Y : Gam} {W : WX} {e a b c tg iter elt o : Expr} {es rest ifs : List Expr} {ta tb te : TE} {tt tu : TT} {ma mb me : ME} {mt mu : MT} {mf : MF} {t : TA} {m : MA} {pos p apos : Pos} {s : Stmt} {ss : List Stmt} {t1 t2 : TS} {m1 m2 : MS} {wi : TI} {mi : MI} {x f : Str}
def eFld (c f : Str) (me : ME) : ME := fun env S => (me env S).bind fun d S1 => match insOf c S1 d with
  | some fs => opt (fs.lookup f) S1
  | none => .stuck
theorem s_fld (c : Str) (hC : Cls X.K (Y.ca c)) (hn : NoAttr X.K (Y.ca c) f) (he : SE X Y W e te me) (hK : X.K = Y.K := by rfl) (hb : attributeBase e f X.env (eval e X.env) = eval e X.env := by rfl) : SE X Y W (.Attribute e f pos) (tFld Y.K te f) (eFld c f me) := ⟨hK ▸ pe_fld he.pe hb, fun w0 H0 w H σ env S O Q st p =>
  he.sim w0 H0 w H σ env S O _ st ((PostX.bind p).imp fun d S1 w1 H1 st1 l1 p1 v r => by
    split at p1
    · rename_i fs hf
      obtain ⟨a, dx, gs, e1, e2, e3⟩ := insOf_rep st1.ok r hf
      obtain ⟨d', e4, k⟩ := PostX.opt_ p1 st1
      obtain ⟨v', e5, e6⟩ := (RepF.look e3).1 d' e4
      exact ⟨a, _, dx, gs, v', e1, e2, hK ▸ hC, hK ▸ hn, e5, k w1 H1 st1 (.refl w1) v' e6⟩
    · exact False.elim p1)⟩
def sFldC (c f : Str) (mo me : ME) : MS := fun env S => (me env S).out env fun y S1 => (mo env S1).out env fun d S2 => match d with
  | .ref n => (match S2[n]? with
    | some (.ins c' fs) => if c' = c ∧ fs.length < 1000 then .nx env (S2.set n (.ins c (putFD f y fs))) else .stuck
    | _ => .stuck)
  | _ => .stuck
theorem t_fld (c : Str) {pos' : Pos} (hC : Cls X.K (Y.ca c)) (hn : NoAttr X.K (Y.ca c) f) (ho : SE X Y W o ta ma) (he : SE X Y W e te me) (hK : X.K = Y.K := by rfl) (hs : swapsWith e (some (.Attribute o f pos')) pos.line X.env = pure false := by rfl) :
    SS X Y W (.Assign [.Attribute o f pos'] e pos) (sFld Y.K ta te f) (sFldC c f ma me) := ⟨hK ▸ ps_fld ho.pe he.pe hs, fun w0 H0 w H σ env S O Dn st p =>
  he.sim w0 H0 w H σ env S O _ st ((PostS.out p).imp fun y S1 w1 H1 st1 l1 p1 yv ry => ho.sim w0 H0 w1 H1 σ env S1 O _ st1 ((PostS.out p1).imp fun d S2 w2 H2 st2 l2 p2 v r => by
    split at p2
    · rename_i n
      split at p2
      · rename_i c' fs hS
        split at p2
        · rename_i hc
          obtain ⟨ec, hl⟩ := hc
          subst ec
          obtain ⟨a, e1, e2⟩ := rep_ref r
          obtain ⟨_, dx, gs, e3, e4⟩ := st2.ok.cells.at_ n a _ e1 hS
          refine ⟨a, _, dx, gs, e2, e3, hK ▸ hC, hK ▸ hn, by rw [← e4.len]; exact hl, ?_⟩
          obtain ⟨k3, f3⟩ := ok_cell (c' := .ins c' (putFD f y fs)) st2.ok e1 hS (o := .ins _ dx (putF f yv gs)) ⟨dx, _, upd_same, RepF.put (ry.mono l2) e4⟩ nt_ins
          exact p2 w2 _ σ O (st2.after f3 k3) (.refl w2)
        · exact False.elim p2
      · exact False.elim p2
    · exact False.elim p2))⟩
variable {k n : Nat} {fa C : Addr} {fd : FuncData} {ps : List Str} {mf : MFn} {dvs : List V} {ds : List Value} {dd : List D}
def tMethS (C : Addr) (m : Str) (sp : Sp) (dvs : List V) (E : L2.St → XK) (ta : TE) (t : TA) : TE := fun σ H Q => ta σ H fun x H1 => ∃ a dx fs, x = .ref a ∧ H1 a = some (.ins C dx fs) ∧ fs.lookup m = none ∧
  t σ H1 fun vs H2 => sp (x :: (vs ++ dvs)) H2 Q (E σ)
theorem pe_methS {CX : CXT} {sp : Sp} {E : L2.St → XK} {pl : Sem Bool} (he : PE X o ta) (c : Cls X.K C) (hm : Meth X.K C x fa) (F : FnOk X.prog X.w X.K X.mg X.base CX k fa fd ps sp) (hr : Room k X.A) (hb : Binds X.K fd ps ds) (hd : Vals dvs ds) (hx : ∀ σ, PassesAt CX X σ (E σ)) (ha : PA X (e :: es) t)
    (hst : starEach (e :: es) X.env = (false, eval e X.env) :: starEach es X.env) (hpl : (backTo pos (starEach es X.env)).any (·.1) = false)
    (ht : eval (.Call (.Attribute o x apos) (e :: es) [] pos) X.env = (do
      let ov ← eval o X.env
      standAt apos.atName
      let (f, first) ← holding [ov] (getMethod ov x pl)
      callWith pos f first (backTo pos (starEach (e :: es) X.env)) (backToKw pos (keywordEach [] X.env)))) :
    PE X (.Call (.Attribute o x apos) (e :: es) [] pos) (tMethS C x sp dvs E ta t) := by
  refine ⟨fun pins s σ H Q I h => ?_⟩
  refine PySem.W.methodCall_KW (pl := pl) (thn (he.run pins s σ H _ I h) fun u s1 ⟨x, H1, I1, rx, a, dx, fs, ex, ea, l, q⟩ => ?_) ht
  subst ex
  obtain rfl : u = Value.ref a := rx
  refine getmeth_ok I1 ea c hm l ?_
  refine PySem.W.callWith_K (first := [.ref a]) (h₀ := X.base) I.ok.mod.kin hm.kp (thn (ha.run pos pins s1 σ H1 _ I1 q) fun us s2 ⟨vs, H2, I2, r, q2⟩ => ⟨I2.kIn, ?_⟩) hst hpl
  exact run_fnSD (us := .ref a :: us) (vs := .ref a :: vs) F hr hb hd (hx σ) I2 (.cons rfl r) q2
theorem pe_methS0 {CX : CXT} {sp : Sp} {E : L2.St → XK} {pl : Sem Bool} (he : PE X o ta) (c : Cls X.K C) (hm : Meth X.K C x fa) (F : FnOk X.prog X.w X.K X.mg X.base CX k fa fd ps sp) (hr : Room k X.A) (hb : Binds X.K fd ps ds) (hd : Vals dvs ds) (hx : ∀ σ, PassesAt CX X σ (E σ))
    (ht : eval (.Call (.Attribute o x apos) [] [] pos) X.env = (do
      let ov ← eval o X.env
      standAt apos.atName
      let (f, first) ← holding [ov] (getMethod ov x pl)
      callWith pos f first (backTo pos (starEach [] X.env)) (backToKw pos (keywordEach [] X.env)))) :
    PE X (.Call (.Attribute o x apos) [] [] pos) (tMethS C x sp dvs E ta tNil) := by
  refine ⟨fun pins s σ H Q I h => ?_⟩
  refine PySem.W.methodCall_KW (pl := pl) (thn (he.run pins s σ H _ I h) fun u s1 ⟨x, H1, I1, rx, a, dx, fs, ex, ea, l, q⟩ => ?_) ht
  subst ex
  obtain rfl : u = Value.ref a := rx
  refine getmeth_ok I1 ea c hm l ?_
  exact PySem.W.callWith_K0 (first := [.ref a]) I1.kIn hm.kp (run_fnSD (us := [.ref a]) (vs := [.ref a]) F hr hb hd (hx σ) I1 (.cons rfl .nil) q)
def mGo {α : Type} (c x : Str) (mf : MFn) (dd : List D) (mo : ME) (m : MA) (F : Ret → Sto → R α) : Envr → Sto → R α := fun env S => (mo env S).bind fun o S1 => match insOf c S1 o with
  | some fs => if fs.lookup x = none then (m env S1).bind fun ds S2 => (mf (o :: (ds ++ dd)) S2).bind F else .stuck
  | none => .stuck
def eMeth (c x : Str) (mf : MFn) (dd : List D) (mo : ME) (m : MA) : ME := mGo c x mf dd mo m fun r S => .ok r.d S
theorem sim_methA {α : Type} {F : Ret → Sto → R α} {g : Gam} {c : Str} (hdv : ∀ w, RepL g w dd dvs) (ho : SimE g W ta ma) (ha : SimA g W t m) (hlen : ∀ env S ds S1, m env S = .ok ds S1 → ds.length + dd.length + 1 = n) {w0 w : Wd} {H0 H : Hp} {σ : L2.St} {env : Envr} {S : Sto} {O : List (Option Addr)} {kk : α → Sto → Wd → Hp → Prop} {Q : VK}
    (st : StR g w0 H0 w H σ env S O) (p : PostX g W w0 H0 w σ env O (mGo c x mf dd ma m F env S) kk)
    (fin : ∀ w1 H1 S1 r, StR g w0 H0 w1 H1 σ env S1 O → PostX g W w0 H0 w1 σ env O (r.bind F) kk → PostF g w1 H1 Q (WE W σ) r) : tMethS (g.ca c) x (spOf g n mf) dvs (WE W) ta t σ H Q := by
  refine ho w0 H0 w H σ env S O _ st ((PostX.bind p).imp fun od S1 w1 H1 st1 l1 p1 ov or => ?_)
  split at p1
  · rename_i fs hf
    split at p1
    · rename_i hx
      obtain ⟨a, dx, gs, e1, e2, e3⟩ := insOf_rep st1.ok or hf
      refine ⟨a, dx, gs, e1, e2, (RepF.look e3).2 hx, ?_⟩
      refine ha w0 H0 w1 H1 σ env S1 O _ st1 ?_
      have p2 := PostX.bind p1
      cases e : m env S1 with
      | stuck => rw [e] at p2; exact p2
      | exc c q S2 => rw [e] at p2; exact p2
      | ok ds S2 =>
        rw [e] at p2
        intro w2 H2 st2 l2 vs rs
        have p3 := p2 w2 H2 st2 l2
        have r2 := RepL.cons_ (or.mono l2) (rs.append_ (hdv w2))
        refine ⟨?_, w2, od :: (ds ++ dd), S2, st2.ok, r2, fin w2 H2 S2 _ st2 p3⟩
        rw [← r2.len, List.length_cons, List.length_append]
        exact hlen env S1 ds S2 e
    · exact False.elim p1
  · exact False.elim p1
theorem s_meth (c : Str) {pl : Sem Bool} (ho : SE X Y W o ta ma) (hC : Cls X.K (Y.ca c)) (hm : Meth X.K (Y.ca c) x fa) (F : FnOk X.prog X.w X.K X.mg X.base (L2N.CX X.prog X.w) k fa fd ps (spOf Y n mf)) (hr : Room k X.A) (hb : Binds X.K fd ps ds) (hd : Vals dvs ds) (hdv : ∀ w, RepL Y w dd dvs) (tk : L2N.Takes X W)
    (ha : SA X Y W (e :: es) t m) (hn : (e :: es).length + dd.length + 1 = n := by rfl) (hst : starEach (e :: es) X.env = (false, eval e X.env) :: starEach es X.env := by rfl) (hpl : (backTo pos (starEach es X.env)).any (·.1) = false := by rfl)
    (ht : eval (.Call (.Attribute o x apos) (e :: es) [] pos) X.env = (do
      let ov ← eval o X.env
      standAt apos.atName
      let (f, first) ← holding [ov] (getMethod ov x pl)
      callWith pos f first (backTo pos (starEach (e :: es) X.env)) (backToKw pos (keywordEach [] X.env))) := by rfl) :
    SE X Y W (.Call (.Attribute o x apos) (e :: es) [] pos) (tMethS (Y.ca c) x (spOf Y n mf) dvs (WE W) ta t) (eMeth c x mf dd ma m) :=
  ⟨pe_methS ho.pe hC hm F hr hb hd (fun σ => L2N.passAt tk σ) ha.pa hst hpl ht, fun w0 H0 w H σ env S O Q st p => sim_methA (g := Y) hdv ho.sim ha.sim (fun env S ds S1 h => by rw [ha.len _ _ _ _ h]; exact hn) st p fun w1 H1 S1 r st1 p1 => post_val st1 p1⟩
theorem s_meth0 (c : Str) {pl : Sem Bool} (ho : SE X Y W o ta ma) (hC : Cls X.K (Y.ca c)) (hm : Meth X.K (Y.ca c) x fa) (F : FnOk X.prog X.w X.K X.mg X.base (L2N.CX X.prog X.w) k fa fd ps (spOf Y n mf)) (hr : Room k X.A) (hb : Binds X.K fd ps ds) (hd : Vals dvs ds) (hdv : ∀ w, RepL Y w dd dvs) (tk : L2N.Takes X W)
    (hn : dd.length + 1 = n := by rfl)
    (ht : eval (.Call (.Attribute o x apos) [] [] pos) X.env = (do
      let ov ← eval o X.env
      standAt apos.atName
      let (f, first) ← holding [ov] (getMethod ov x pl)
      callWith pos f first (backTo pos (starEach [] X.env)) (backToKw pos (keywordEach [] X.env))) := by rfl) :
    SE X Y W (.Call (.Attribute o x apos) [] [] pos) (tMethS (Y.ca c) x (spOf Y n mf) dvs (WE W) ta tNil) (eMeth c x mf dd ma aNil) :=
  ⟨pe_methS0 ho.pe hC hm F hr hb hd (fun σ => L2N.passAt tk σ) ht, fun w0 H0 w H σ env S O Q st p => sim_methA (g := Y) hdv ho.sim (a_nil (X := X) (Y := Y)).sim (fun env S ds S1 h => by cases h; rw [← hn, List.length_nil]; omega) st p fun w1 H1 S1 r st1 p1 => post_val st1 p1⟩
end
end Mm
namespace Mm
open PySem L2
mutual
def D.under (n : Nat) : D → Prop
  | .lst ds => underL n ds
  | .tup ds => underL n ds
  | .ins _ fs => underF n fs
  | .ref m => m < n
  | .dic ks => underK n ks
  | _ => True
def underL (n : Nat) : List D → Prop
  | [] => True
  | d :: ds => d.under n ∧ underL n ds
def underF (n : Nat) : List (Str × D) → Prop
  | [] => True
  | (_, d) :: ds => d.under n ∧ underF n ds
def underK (n : Nat) : List (Key × D) → Prop
  | [] => True
  | (_, d) :: ds => d.under n ∧ underK n ds
end
theorem under_ints (n : Nat) : ∀ ns : List Int, underL n (ns.map D.int)
  | [] => by unfold List.map underL; trivial
  | i :: ns => by
    unfold List.map underL
    exact ⟨by unfold D.under; trivial, under_ints n ns⟩
mutual
theorem Rep.under {g : Gam} {w : Wd} : ∀ {d : D} {v : V}, Rep g w d v → d.under w.rho.length
  | .non, _, _ => by unfold D.under; trivial
  | .bl _, _, _ => by unfold D.under; trivial
  | .int _, _, _ => by unfold D.under; trivial
  | .str _, _, _ => by unfold D.under; trivial
  | .scr _, _, _ => by unfold D.under; trivial
  | .ty _, _, _ => by unfold D.under; trivial
  | .cls _, _, _ => by unfold D.under; trivial
  | .adr _, _, _ => by unfold D.under; trivial
  | .set _, _, _ => by unfold D.under; trivial
  | .tdc _, _, _ => by unfold D.under; trivial
  | .tds _, _, _ => by unfold D.under; trivial
  | .any, _, _ => by unfold D.under; trivial
  | .dno _, _, _ => by unfold D.under; trivial
  | .dic ds, v, h => by
    unfold Rep at h
    obtain ⟨a, vs, _, _, r⟩ := h
    unfold D.under
    exact RepK.under r
  | .lst ds, v, h => by
    obtain ⟨a, vs, _, _, r⟩ := rep_lst h
    unfold D.under
    exact RepL.under r
  | .tup ds, v, h => by
    obtain ⟨a, vs, _, _, r⟩ := rep_tup h
    unfold D.under
    exact RepL.under r
  | .ins c fs, v, h => by
    unfold Rep at h
    obtain ⟨a, dx, gs, _, _, r⟩ := h
    unfold D.under
    exact RepF.under r
  | .ref n, v, h => by
    obtain ⟨a, e, _⟩ := rep_ref h
    unfold D.under
    exact (List.getElem?_eq_some_iff.mp e).1
theorem RepL.under {g : Gam} {w : Wd} : ∀ {ds : List D} {vs : List V}, RepL g w ds vs → underL w.rho.length ds
  | [], _, _ => by unfold underL; trivial
  | d :: ds, vs, h => by
    unfold RepL at h
    obtain ⟨v, r, e, a, b⟩ := h
    unfold underL
    exact ⟨Rep.under a, RepL.under b⟩
theorem RepF.under {g : Gam} {w : Wd} : ∀ {ds : List (Str × D)} {vs : List (Str × V)}, RepF g w ds vs → underF w.rho.length ds
  | [], _, _ => by unfold underF; trivial
  | (f, d) :: ds, vs, h => by
    unfold RepF at h
    obtain ⟨v, r, e, a, b⟩ := h
    unfold underF
    exact ⟨Rep.under a, RepF.under b⟩
theorem RepK.under {g : Gam} {w : Wd} : ∀ {ds : List (Key × D)} {vs : List (Key × V)}, RepK g w ds vs → underK w.rho.length ds
  | [], _, _ => by unfold underK; trivial
  | (f, d) :: ds, vs, h => by
    unfold RepK at h
    obtain ⟨v, r, e, a, b⟩ := h
    unfold underK
    exact ⟨a.under, RepK.under b⟩
end
structure Wd.cut (w w' : Wd) (n : Nat) : Prop where
  pre : ∀ m a, m < n → w.rho[m]? = some a → w'.rho[m]? = some a
  ex : Same w.G w'.G
mutual
theorem Rep.cut {g : Gam} {w w' : Wd} {n : Nat} (l : w.cut w' n) : ∀ {d : D} {v : V}, Rep g w d v → d.under n → Rep g w' d v
  | .non, _, h, _ => h
  | .bl _, _, h, _ => h
  | .int _, _, h, _ => h
  | .str _, _, h, _ => h
  | .lst ds, v, h, k => by
    unfold Rep at h ⊢
    unfold D.under at k
    obtain ⟨a, vs, e, q, r⟩ := h
    exact ⟨a, vs, e, l.ex _ _ q, RepL.cut l r k⟩
  | .tup ds, v, h, k => by
    unfold Rep at h ⊢
    unfold D.under at k
    obtain ⟨a, vs, e, q, r⟩ := h
    exact ⟨a, vs, e, q.same l.ex, RepL.cut l r k⟩
  | .ins c fs, v, h, k => by
    unfold Rep at h ⊢
    unfold D.under at k
    obtain ⟨a, dx, gs, e, q, r⟩ := h
    exact ⟨a, dx, gs, e, l.ex _ _ q, RepF.cut l r k⟩
  | .ref n, v, h, k => by
    unfold Rep at h ⊢
    unfold D.under at k
    obtain ⟨a, e, q⟩ := h
    exact ⟨a, l.pre _ _ k e, q⟩
  | .scr ns, v, h, _ => by
    unfold Rep at h ⊢
    obtain ⟨a, e, q⟩ := h
    exact ⟨a, e, l.ex.seq q⟩
  | .ty _, _, h, _ => h
  | .cls _, _, h, _ => h
  | .adr _, _, h, _ => h
  | .set xs, v, h, _ => by
    unfold Rep at h ⊢
    obtain ⟨a, q, e, r, s⟩ := h
    exact ⟨a, q, e, l.ex _ _ r, s⟩
  | .dic ds, v, h, k => by
    unfold Rep at h ⊢
    unfold D.under at k
    obtain ⟨a, vs, e, q, r⟩ := h
    exact ⟨a, vs, e, same_rd l.ex q, RepK.cut l r k⟩
  | .tdc ks, v, h, _ => by
    unfold Rep at h ⊢
    obtain ⟨a, e, q⟩ := h
    exact ⟨a, e, l.ex _ _ q⟩
  | .any, v, h, _ => by
    unfold Rep at h ⊢
    exact h
  | .dno ks, v, h, _ => by
    unfold Rep at h ⊢
    obtain ⟨a, e, q⟩ := h
    exact ⟨a, e, q.same l.ex⟩
  | .tds ks, v, h, _ => by
    unfold Rep at h ⊢
    obtain ⟨a, e, q⟩ := h
    exact ⟨a, e, l.ex _ _ q⟩
theorem RepL.cut {g : Gam} {w w' : Wd} {n : Nat} (l : w.cut w' n) : ∀ {ds : List D} {vs : List V}, RepL g w ds vs → underL n ds → RepL g w' ds vs
  | [], _, h, _ => h
  | d :: ds, vs, h, k => by
    unfold RepL at h ⊢
    unfold underL at k
    obtain ⟨v, r, e, a, b⟩ := h
    exact ⟨v, r, e, Rep.cut l a k.1, RepL.cut l b k.2⟩
theorem RepF.cut {g : Gam} {w w' : Wd} {n : Nat} (l : w.cut w' n) : ∀ {ds : List (Str × D)} {vs : List (Str × V)}, RepF g w ds vs → underF n ds → RepF g w' ds vs
  | [], _, h, _ => h
  | (f, d) :: ds, vs, h, k => by
    unfold RepF at h ⊢
    unfold underF at k
    obtain ⟨v, r, e, a, b⟩ := h
    exact ⟨v, r, e, Rep.cut l a k.1, RepF.cut l b k.2⟩
theorem RepK.cut {g : Gam} {w w' : Wd} {n : Nat} (l : w.cut w' n) : ∀ {ds : List (Key × D)} {vs : List (Key × V)}, RepK g w ds vs → underK n ds → RepK g w' ds vs
  | [], _, h, _ => h
  | (f, d) :: ds, vs, h, k => by
    unfold RepK at h ⊢
    unfold underK at k
    obtain ⟨v, r, e, a, b⟩ := h
    exact ⟨v, r, e, a.cut l k.1, RepK.cut l b k.2⟩
end
theorem MemX.cut {g : Gam} {w w' : Wd} {n : Nat} (l : w.cut w' n) : ∀ {ks : List ((List Int × List Int) × Int)} {xs : List (NestedKey × Addr × Value)}, MemX g w ks xs → MemX g w' ks xs
  | [], _, h => h
  | ((A, B), z) :: ks, xs, h => by
    obtain ⟨t, tok, r, e, q, m⟩ := h
    refine ⟨t, tok, r, e, q.cut l ?_, m.cut l⟩
    have u : ∀ C : List Int, (D.tup (C.map D.int)).under n := fun C => by unfold D.under; exact under_ints n C
    unfold D.under underL
    refine ⟨u A, ?_⟩
    unfold underL
    refine ⟨u B, ?_⟩
    unfold underL
    trivial
def Cell.under (n : Nat) : Cell → Prop
  | .lst ds => underL n ds
  | .ins _ fs => underF n fs
  | .dic ks => underK n ks
  | .tdc _ => True
  | .lck ks => underK n ks
  | .mem _ => True
  | .lkl ds => underL n ds
theorem CellR.under {g : Gam} {w : Wd} {H : Hp} {a : Addr} {c : Cell} (h : CellR g w H a c) : c.under w.rho.length := by
  cases c with
  | lst ds =>
    obtain ⟨vs, _, r⟩ := h
    exact r.under
  | ins c fs =>
    obtain ⟨dx, gs, _, r⟩ := h
    exact r.under
  | dic ks =>
    obtain ⟨gs, _, r⟩ := h
    exact r.under
  | tdc ks => trivial
  | lck ks =>
    obtain ⟨_, gs, _, r⟩ := h
    exact r.under
  | mem ks => trivial
  | lkl ds =>
    obtain ⟨_, vs, _, r⟩ := h
    exact r.under
theorem CellR.cut {g : Gam} {w w' : Wd} {H : Hp} {a : Addr} {c : Cell} {n : Nat} (l : w.cut w' n) (h : CellR g w H a c) (k : c.under n) : CellR g w' H a c := by
  cases c with
  | lst ds =>
    obtain ⟨vs, e, r⟩ := h
    exact ⟨vs, e, r.cut l k⟩
  | ins c fs =>
    obtain ⟨dx, gs, e, r⟩ := h
    exact ⟨dx, gs, e, r.cut l k⟩
  | dic ks =>
    obtain ⟨gs, e, r⟩ := h
    exact ⟨gs, e, r.cut l k⟩
  | tdc ks => exact h
  | lck ks =>
    obtain ⟨o, gs, e, r⟩ := h
    exact ⟨o, gs, e, r.cut l k⟩
  | mem ks =>
    obtain ⟨o, es, ep, xs, e1, h1, h2, h3, h4, h5⟩ := h
    exact ⟨o, es, ep, xs, e1, h1, h2, h3, h4, h5.cut l⟩
  | lkl ds =>
    obtain ⟨o, gs, e, r⟩ := h
    exact ⟨o, gs, e, r.cut l k⟩
section
variable {X : Cx} {Y : Gam} {W : WX} {e a b c tg iter elt o : Expr} {es rest ifs : List Expr} {ta tb te : TE} {tt tu : TT} {ma mb me : ME} {mt mu : MT} {t : TA} {m : MA} {pos p apos : Pos} {x f : Str}
variable {k n : Nat} {fa C : Addr} {fd : FuncData} {ps : List Str} {mf : MFn} {dvs : List V} {ds : List Value} {dd : List D}
open Classical in
noncomputable def popI (c : Str) (S : Sto) (r : R Ret) : R D := match r with
  | .ok (.val .non) S2 => (match S2.getLast? with
    | some (.ins c' fs) => if S2 = S ++ [.ins c fs] ∧ c' = c ∧ underF S.length fs then .ok (.ins c fs) S else .stuck
    | _ => .stuck)
  | .exc cc none S2 => (match S2.getLast? with
    | some q => if S2 = S ++ [q] then .exc cc none S else .stuck
    | _ => .stuck)
  | _ => .stuck
theorem popI_ok {c : Str} {S : Sto} {fs : List (Str × D)} (h : underF S.length fs) : popI c S (.ok (.val .non) (S ++ [.ins c fs])) = .ok (.ins c fs) S := by
  unfold popI
  simp [h]
noncomputable def eNew (c : Str) (mf : MFn) (dd : List D) (m : MA) : ME := fun env S => (m env S).bind fun ds S1 => popI c S1 (mf (.ref S1.length :: (ds ++ dd)) (S1 ++ [.ins c []]))
def tMakeS (C : Addr) (sp : Sp) (dvs : List V) (E : L2.St → XK) (t : TA) : TE := fun σ H Q => t σ H fun vs H1 => ∀ x dx, H1 x = none → H1 dx = none → dx ≠ x →
  sp (.ref x :: (vs ++ dvs)) (upd (upd H1 dx (.own x)) x (.ins C dx [])) (fun v H2 => v = .non ∧ Q (.ref x) H2) (E σ)
theorem run_makeS {CX : CXT} {sp : Sp} {E : L2.St → XK} {pins : List (Addr × Obj)} {σ : L2.St} {H : Hp} {s : Shared} {Q : VK} {us : List Value} {vs : List V} (M : Mk X.K C fa) (F : FnOk X.prog X.w X.K X.mg X.base CX k fa fd ps sp) (hr : Room (k + 1) X.A) (hb : Binds X.K fd ps ds) (hd : Vals dvs ds)
    (hx : ∀ (pins : List (Addr × Obj)) (H : Hp) (s : Shared) (e : Value) (s' : Shared), Inv X pins σ H s → CX X.stack H s (E σ) e s' → X.xe e s') (I : Inv X pins σ H s) (r : Vals vs us)
    (h : ∀ x dx, H x = none → H dx = none → dx ≠ x → sp (.ref x :: (vs ++ dvs)) (upd (upd H dx (.own x)) x (.ins C dx [])) (fun v H2 => v = .non ∧ Q (.ref x) H2) (E σ)) :
    wpAny (model X.prog X.w) X.A (call (.ref C) us) (EP X pins σ Q) X.xe s := by
  have hq := h (s.heap.objs.size + 1) s.heap.objs.size (I.hok.fresh (Nat.le_succ _)) (I.hok.fresh (Nat.le_refl _)) (Nat.ne_of_lt (Nat.lt_succ_self _))
  have I2 := Inv.made (C := C) I
  have r2 : Vals (V.ref (s.heap.objs.size + 1) :: (vs ++ dvs)) (Value.ref (s.heap.objs.size + 1) :: (us ++ ds)) := .cons rfl (r.append hd)
  have hl : (Value.ref (s.heap.objs.size + 1) :: us ++ ds).length = ps.length := by
    have e := r2.length
    rw [F.len _ _ _ _ hq] at e
    exact e.symm
  refine wpAny_call (make_map (f := fa) I.kIn M.makes M.init (beq_iff_eq.mp M.fn) (codeAny_mono (F.run _ X.stack _ _ ⟨Value.ref (s.heap.objs.size + 1) :: us, []⟩ (Value.ref (s.heap.objs.size + 1) :: (us ++ ds)) _ _ (E σ) (hr.make C us [])
    (I2.env0.make C us []) (hb _ (Value.ref (s.heap.objs.size + 1) :: us) I2.kIn hl) r2 hq) fun r s' hq' => ?_))
  cases r with
  | error e => exact hx pins _ _ e s' I2 hq'
  | ok fl =>
    cases fl with
    | ret u =>
      obtain ⟨v, H', I3, rv, ev, q3⟩ := I2.after hq'
      subst ev
      exact ⟨rv, ⟨V.ref (s.heap.objs.size + 1), H', I3, rfl, q3⟩⟩
    | next => exact False.elim hq'
    | brk => exact False.elim hq'
    | cont => exact False.elim hq'
theorem pe_makeS {CX : CXT} {sp : Sp} {E : L2.St → XK} (M : Mk X.K C fa) (F : FnOk X.prog X.w X.K X.mg X.base CX k fa fd ps sp) (hr : Room (k + 1) X.A) (hg : Gl X x) (hm : X.mg x = some (.ref C)) (hb : Binds X.K fd ps ds) (hd : Vals dvs ds) (hx : ∀ σ, PassesAt CX X σ (E σ))
    (ha : PA X (e :: es) t) (hdb : (x == ("__debug__" : Str)) = false) (he : starEach (e :: es) X.env = (false, eval e X.env) :: starEach es X.env) (hpl : (backTo pos (starEach es X.env)).any (·.1) = false) :
    PE X (.Call (.Name x p) (e :: es) [] pos) (tMakeS C sp dvs E t) := by
  refine ⟨fun pins s σ H Q I h => ?_⟩
  refine wpAny_Call_Name_kw (ld_glob I hg hm ?_ hdb)
  refine PySem.W.callWith_K (h₀ := X.base) I.ok.mod.kin M.kp (thn (ha.run pos pins s σ H _ I h) fun us s1 ⟨vs, H1, I1, r, q⟩ => ⟨I1.kIn, ?_⟩) he hpl
  exact run_makeS M F hr hb hd (hx σ) I1 r q
theorem ok_inst {g : Gam} {w : Wd} {H : Hp} {S : Sto} {c : Str} {x dx : Addr} (k : Ok g w H S) (hx : H x = none) (hdx : H dx = none) (ne : dx ≠ x) :
    Ok g ⟨w.rho ++ [x], w.G⟩ (upd (upd H dx (.own x)) x (.ins (g.ca c) dx [])) (S ++ [.ins c []]) ∧ w.le ⟨w.rho ++ [x], w.G⟩ := by
  have le : w.le ⟨w.rho ++ [x], w.G⟩ := ⟨⟨[x], rfl⟩, Same.refl _⟩
  obtain ⟨k1, f1⟩ := ok_lay (o := .own x) k hdx nt_own
  have hx1 : upd H dx (.own x) x = none := by rw [upd_ne (Ne.symm ne)]; exact hx
  obtain ⟨k2, f2⟩ := ok_lay (o := .ins (g.ca c) dx []) k1 hx1 nt_ins
  have nx : x ∉ w.rho := fun m => by
    obtain ⟨_, o, e⟩ := k.cells.in_ m
    rw [hx] at e
    cases e
  refine ⟨⟨k2.ex, ⟨fun i j a h1 h2 => ?_, ?_, fun m a q h1 h2 => ?_⟩, k2.tabs, k2.notab⟩, le⟩
  · have h1 : (w.rho ++ [x])[i]? = some a := h1
    have h2 : (w.rho ++ [x])[j]? = some a := h2
    by_cases hi : i < w.rho.length
    · by_cases hj : j < w.rho.length
      · rw [List.getElem?_append_left hi] at h1
        rw [List.getElem?_append_left hj] at h2
        exact k.cells.nd i j a h1 h2
      · rw [List.getElem?_append_left hi] at h1
        rw [List.getElem?_append_right (by omega)] at h2
        have : a = x := by
          cases z : j - w.rho.length with
          | zero => rw [z] at h2; simpa using h2.symm
          | succ q => rw [z] at h2; simp at h2
        exact absurd (this ▸ List.mem_of_getElem? h1) nx
    · by_cases hj : j < w.rho.length
      · rw [List.getElem?_append_right (by omega)] at h1
        rw [List.getElem?_append_left hj] at h2
        have : a = x := by
          cases z : i - w.rho.length with
          | zero => rw [z] at h1; simpa using h1.symm
          | succ q => rw [z] at h1; simp at h1
        exact absurd (this ▸ List.mem_of_getElem? h2) nx
      · have l1 := (List.getElem?_eq_some_iff.mp h1).1
        have l2 := (List.getElem?_eq_some_iff.mp h2).1
        simp only [List.length_append, List.length_cons, List.length_nil] at l1 l2
        omega
  · show (w.rho ++ [x]).length = (S ++ [Cell.ins c []]).length
    rw [List.length_append, List.length_append, k.cells.len]
    rfl
  · have h1 : (w.rho ++ [x])[m]? = some a := h1
    by_cases hm : m < w.rho.length
    · rw [List.getElem?_append_left hm] at h1
      rw [List.getElem?_append_left (by rw [← k.cells.len]; exact hm)] at h2
      obtain ⟨q1, q2⟩ := k2.cells.at_ m a q h1 h2
      exact ⟨q1, q2.move le rfl⟩
    · rw [List.getElem?_append_right (by omega)] at h1
      rw [List.getElem?_append_right (by rw [← k.cells.len]; omega), ← k.cells.len] at h2
      cases z : m - w.rho.length with
      | zero =>
        rw [z] at h1 h2
        have ea : x = a := by simpa using h1
        have eq' : Cell.ins c [] = q := by simpa using h2
        subst ea eq'
        exact ⟨none_of_same k.ex hx, dx, [], upd_same, by unfold RepF; rfl⟩
      | succ y => rw [z] at h1; simp at h1
theorem frame_inst {g : Gam} {w w' : Wd} {H H' : Hp} {c : Str} {x dx : Addr} (hx : H x = none) (hdx : H dx = none) (ne : dx ≠ x) (f : Frame ⟨w.rho ++ [x], w.G⟩ (upd (upd H dx (.own x)) x (.ins (g.ca c) dx [])) w' H') : Frame w H w' H' := by
  have le : w.le ⟨w.rho ++ [x], w.G⟩ := ⟨⟨[x], rfl⟩, Same.refl _⟩
  have at_ : ∀ a, H a ≠ none → upd (upd H dx (.own x)) x (.ins (g.ca c) dx []) a = H a := fun a h => by
    rw [upd_ne (fun z => h (by rw [z]; exact hx)), upd_ne (fun z => h (by rw [z]; exact hdx))]
  refine ⟨le.trans f.le, fun a o h n t => f.keep a o (by rw [at_ a (by rw [h]; exact fun z => nomatch z)]; exact h) (fun z => ?_) t, fun a h => f.newG a (by rw [at_ a h]; exact h), fun a h => ?_, fun a h => f.dom a (by rw [at_ a h]; exact h), fun a ps h => f.tb a ps (by rw [at_ a (by rw [h]; exact fun z => nomatch z)]; exact h), fun a x u h => f.fz a x u (by rw [at_ a (by rw [h]; exact fun z => nomatch z)]; exact h)⟩
  · rcases List.mem_append.mp z with z | z
    · exact n z
    · have : a = x := by simpa using z
      rw [this, hx] at h
      cases h
  · rcases f.rho a h with z | z
    · rcases List.mem_append.mp z with z | z
      · exact .inl z
      · refine .inr ?_
        have : a = x := by simpa using z
        rw [this]
        exact hx
    · refine .inr ?_
      cases e : H a with
      | none => rfl
      | some o =>
        rw [at_ a (by rw [e]; exact fun z => nomatch z), e] at z
        cases z
theorem post_new {g : Gam} {c : Str} {w0 w : Wd} {H0 H : Hp} {σ : L2.St} {env : Envr} {S : Sto} {O : List (Option Addr)} {Q : VK} {x dx : Addr} {r : R Ret} (st : StR g w0 H0 w H σ env S O) (hx : H x = none) (hdx : H dx = none) (ne : dx ≠ x)
    (p : PostX g W w0 H0 w σ env O (popI c S r) (fun d _ w' H' => ∀ v, Rep g w' d v → Q v H')) : PostF g ⟨w.rho ++ [x], w.G⟩ (upd (upd H dx (.own x)) x (.ins (g.ca c) dx [])) (fun v H2 => v = .non ∧ Q (.ref x) H2) (WE W σ) r := by
  obtain ⟨k0, le0⟩ := ok_inst (c := c) st.ok hx hdx ne
  have cutW : ∀ {w' : Wd} {H' : Hp} {q : Cell}, Frame ⟨w.rho ++ [x], w.G⟩ (upd (upd H dx (.own x)) x (.ins (g.ca c) dx [])) w' H' → Ok g w' H' (S ++ [q]) → w'.rho = w.rho ++ [x] := fun {w' H' q} f k => by
    obtain ⟨tl, et⟩ := f.le.pre
    have l1 := k.cells.len
    have et : w'.rho = (w.rho ++ [x]) ++ tl := et
    rw [et, List.length_append, List.length_append, List.length_append, st.ok.cells.len] at l1
    have : tl = [] := by
      cases tl with
      | nil => rfl
      | cons y ys => simp at l1
    rw [et, this, List.append_nil]
  have nx : x ∉ w.rho := fun m => by
    obtain ⟨_, o, e⟩ := st.ok.cells.in_ m
    rw [hx] at e
    cases e
  have okS : ∀ {w' : Wd} {H' : Hp} {q : Cell} {o : HO}, Frame ⟨w.rho ++ [x], w.G⟩ (upd (upd H dx (.own x)) x (.ins (g.ca c) dx [])) w' H' → Ok g w' H' (S ++ [q]) → H' x = some o → (∀ ps, o ≠ .tbl ps) → w'.G x = none →
      Ok g ⟨w.rho, upd w'.G x o⟩ H' S ∧ Frame w H ⟨w.rho, upd w'.G x o⟩ H' ∧ w'.cut ⟨w.rho, upd w'.G x o⟩ S.length := fun {w' H' q o} f k ho nt hg => by
    have er := cutW f k
    have cw : w'.cut ⟨w.rho, upd w'.G x o⟩ S.length := ⟨fun m a hm e => by
      rw [er, List.getElem?_append_left (by rw [st.ok.cells.len]; exact hm)] at e
      exact e, same_upd hg⟩
    have f2 : Frame w H w' H' := frame_inst hx hdx ne f
    refine ⟨⟨fun b u e => ?_, ⟨st.ok.cells.nd, st.ok.cells.len, fun m b q' e1 e2 => ?_⟩, k.tabs, fun b ps e => ?_⟩, ⟨⟨⟨[], by simp⟩, f2.le.ex.trans (same_upd hg)⟩, f2.keep, fun b h => ?_, fun b h => .inl h, f2.dom, f2.tb, f2.fz⟩, cw⟩
    · by_cases hb : b = x
      · have e : upd w'.G x o b = some u := e
        rw [hb, upd_same] at e
        rw [hb, ho, e]
      · have e : upd w'.G x o b = some u := e
        rw [upd_ne hb] at e
        exact k.ex b u e
    · have hm : m < S.length := (List.getElem?_eq_some_iff.mp e2).1
      have e1' : w'.rho[m]? = some b := by
        rw [er, List.getElem?_append_left (by rw [st.ok.cells.len]; exact hm)]
        exact e1
      obtain ⟨q1, q2⟩ := k.cells.at_ m b q' e1' (by rw [List.getElem?_append_left hm]; exact e2)
      have nb : b ≠ x := fun z => nx (by rw [← z]; exact List.mem_of_getElem? e1)
      refine ⟨(upd_ne nb).trans q1, q2.cut cw ?_⟩
      obtain ⟨_, q4⟩ := st.ok.cells.at_ m b q' e1 e2
      have q5 := q4.under
      rw [st.ok.cells.len] at q5
      exact q5
    · by_cases hb : b = x
      · have e : upd w'.G x o b = some (.tbl ps) := e
        rw [hb, upd_same] at e
        exact nt ps (Option.some.inj e)
      · have e : upd w'.G x o b = some (.tbl ps) := e
        rw [upd_ne hb] at e
        exact k.notab b ps e
    · have nb : b ≠ x := fun z => h (by rw [z]; exact hx)
      exact (upd_ne nb).trans (f2.newG b h)
  unfold popI at p
  split at p
  · rename_i S2
    split at p
    · rename_i c' fs hl
      split at p
      · rename_i hc
        obtain ⟨e1, e2, e3⟩ := hc
        subst e2
        intro w' H' v f k rv
        rw [e1] at k
        have er := cutW f k
        have hlast : w'.rho[S.length]? = some x := by
          rw [er, ← st.ok.cells.len]
          simp
        obtain ⟨q1, dx', gs, q2, q3⟩ := k.cells.at_ S.length x (.ins c' fs) hlast (by simp)
        obtain ⟨k3, f3, cw⟩ := okS f k q2 nt_ins q1
        refine ⟨rep_non (g := g) (w := w') rv, p _ H' (st.after f3 k3) f3.le _ ?_⟩
        unfold Rep
        exact ⟨x, dx', gs, rfl, upd_same, q3.cut cw e3⟩
      · exact False.elim p
    · exact False.elim p
  · rename_i cc S2
    split at p
    · rename_i q hl
      split at p
      · rename_i e1
        intro w' H' cls dd f k ex
        rw [e1] at k
        have er := cutW f k
        have hlast : w'.rho[S.length]? = some x := by
          rw [er, ← st.ok.cells.len]
          simp
        obtain ⟨q1, q2⟩ := k.cells.at_ S.length x q hlast (by simp)
        obtain ⟨o, q3, q4⟩ := q2.some_
        obtain ⟨k3, f3, cw⟩ := okS f k q3 q4 q1
        exact p _ H' cls dd (st.after f3 k3) f3.le ex
      · exact False.elim p
    · exact False.elim p
  · exact False.elim p
theorem s_new (M : Mk X.K (Y.ca x) fa) (F : FnOk X.prog X.w X.K X.mg X.base (L2N.CX X.prog X.w) k fa fd ps (spOf Y n mf)) (hr : Room (k + 1) X.A) (hm : X.mg x = some (.ref (Y.ca x))) (hb : Binds X.K fd ps ds) (hd : Vals dvs ds) (hdv : ∀ w, RepL Y w dd dvs) (tk : L2N.Takes X W)
    (ha : SA X Y W (e :: es) t m) (hn : (e :: es).length + dd.length + 1 = n := by rfl) (hg : Gl X x := by rfl) (hdb : (x == ("__debug__" : Str)) = false := by decide) (he : starEach (e :: es) X.env = (false, eval e X.env) :: starEach es X.env := by rfl) (hpl : (backTo pos (starEach es X.env)).any (·.1) = false := by rfl) :
    SE X Y W (.Call (.Name x p) (e :: es) [] pos) (tMakeS (Y.ca x) (spOf Y n mf) dvs (WE W) t) (eNew x mf dd m) :=
  ⟨pe_makeS M F hr hg hm hb hd (fun σ => L2N.passAt tk σ) ha.pa hdb he hpl, fun w0 H0 w H σ env S O Q st p => by
    refine ha.sim w0 H0 w H σ env S O _ st ?_
    have p2 := PostX.bind p
    cases e : m env S with
    | stuck => rw [e] at p2; exact p2
    | exc c q S2 => rw [e] at p2; exact p2
    | ok ds S1 =>
      rw [e] at p2
      intro w1 H1 st1 l1 vs rs y dy hy hdy ne
      have p3 := p2 w1 H1 st1 l1
      obtain ⟨k4, l4⟩ := ok_inst (c := x) st1.ok hy hdy ne
      have r4 : RepL Y ⟨w1.rho ++ [y], w1.G⟩ (.ref S1.length :: (ds ++ dd)) (.ref y :: (vs ++ dvs)) := RepL.cons_ (by
        unfold Rep
        refine ⟨y, ?_, rfl⟩
        show (w1.rho ++ [y])[S1.length]? = some y
        rw [← st1.ok.cells.len]
        simp) ((rs.mono l4).append_ (hdv _))
      refine ⟨?_, ⟨w1.rho ++ [y], w1.G⟩, _, S1 ++ [.ins x []], k4, r4, post_new st1 hy hdy ne p3⟩
      rw [← r4.len, List.length_cons, List.length_append, ha.len _ _ _ _ e]
      exact hn⟩
end
end Mm
namespace Mm
open PySem L2
open Sem (wp) in
open AutoSeq1 (wpAny_loadPart') in
theorem meets_enumerate_newT (l : Addr) (items : Array Value) (n : Nat) (dct : Option Addr) (sl : Array (Option Value)) :
    Meets (Builtin.«enumerate.__new__» ⟨[.type "enumerate", .ref l], []⟩) (fun _ R s => s.heap.get? l = some { cls := .type "tuple", dict := dct, data := .seq items n, slots := sl } ∧
      R (.ok (.ret (.ref (s.heap.push { cls := .type "tuple_iterator", data := .fields #[.ref l, .int 0 0] }).objs.size)))
        { s with heap := (s.heap.push { cls := .type "tuple_iterator", data := .fields #[.ref l, .int 0 0] }).push { cls := .type "enumerate", data := .fields #[.none, .bool false, .ref s.heap.objs.size, rawInt 0, .none, .none] } }) :=
  .of_wp fun prog w A R s h => by
    obtain ⟨hp, g, d, tk, os⟩ := s; obtain ⟨hl, h⟩ := h
    have hsub := sub_enumerate
    have hL : Heap.IsTuple (Shared.heap ⟨hp, g, d, tk, os⟩) l items := ⟨_, hl, rfl, n, rfl⟩
    wp_walk using wpAny_loadPart' hl
    refine wpAny_stack_any fun st => wpAny_pure ?_
    split
    · rename_i c _ _ _ _ _
      cases (c == Value.type "enumerate")
      · wp_walk using wpAny_loadPart' hl, wpAny_pyIter_tuple hL
        exact ⟨_, rfl, h⟩
      · wp_walk using wpAny_loadPart' hl, wpAny_pyIter_tuple hL
        exact ⟨_, rfl, h⟩
    · wp_walk using wpAny_loadPart' hl, wpAny_pyIter_tuple hL
      exact ⟨_, rfl, h⟩
theorem call_enumerate_tuple {prog : Program} {w : World} {A : Around} {E : Value → Shared → Prop} {s : Shared} {l : Addr} {items : Array Value} {Q : Value → Shared → Prop} (hL : s.heap.IsTuple l items)
    (h : ∀ h', IsEnum h' (s.heap.objs.size + 1) s.heap.objs.size 0 .none → h'.IsTupleIter s.heap.objs.size l 0 → h'.objs.size = s.heap.objs.size + 2 →
      (∀ b o, s.heap.get? b = some o → h'.get? b = some o) → Q (.ref (s.heap.objs.size + 1)) { s with heap := h' }) :
    wpAny (model prog w) A (call (.type "enumerate") [.ref l]) Q E s := by
  obtain ⟨⟨c, dct, dt, sl⟩, hl, hc, n, hd⟩ := hL
  replace hc : c = .type "tuple" := hc
  replace hd : dt = .seq items n := hd
  subst hc hd
  refine callType_new F.called_enumerate (by decide) (F.typeCall_enumerate_1 _) (F.newCall_enumerate_1 _) (fun obj => F.args_object_init_2 obj _) F.entry_enumerate_new
    (meets_enumerate_newT l items n dct sl) ⟨hl, ?_⟩
  have hz : (s.heap.push { cls := .type "tuple_iterator", data := .fields #[.ref l, .int 0 0] }).objs.size = s.heap.objs.size + 1 := Heap.size_push ..
  show _ ∧ _
  rw [hz]
  have he : IsEnum ((s.heap.push { cls := .type "tuple_iterator", data := .fields #[.ref l, .int 0 0] }).push
      { cls := .type "enumerate", data := .fields #[.none, .bool false, .ref s.heap.objs.size, rawInt 0, .none, .none] }) (s.heap.objs.size + 1) s.heap.objs.size 0 .none := by
    have := Heap.get?_push_size (s.heap.push { cls := .type "tuple_iterator", data := .fields #[.ref l, .int 0 0] })
      (o := { cls := .type "enumerate", data := .fields #[.none, .bool false, .ref s.heap.objs.size, rawInt 0, .none, .none] }) rfl
    rw [hz] at this; exact this
  refine ⟨⟨_, he, rfl⟩, h _ he ⟨_, Heap.get?_push_of_some _ (Heap.get?_push_size _ rfl), rfl, rfl⟩ (by rw [Heap.size_push, hz]) fun b o x => Heap.get?_push_of_some _ (Heap.get?_push_of_some _ x)⟩
def Itet (K : PySem.W.Frag) (a : Addr) : It :=
  ⟨fun i H => ∃ (xs : List V) (x : V), SqT K H a xs ∧ xs[i]? = some x, fun i H v H' => ∃ T x, v = .ref T ∧ H T = none ∧ H' = upd H T (.tup [.int (i : Nat), x]) ∧ ∀ xs, SqT K H a xs → xs[i]? = some x, fun i H => ∃ xs : List V, SqT K H a xs ∧ xs.length ≤ i⟩
theorem turn_enumT {P : Program} {w : World} {K : PySem.W.Frag} {elts : List Expr} {kk : Nat} {tpos : Pos} (a e it : Addr) (hai : a ≠ it) (hae : e ≠ a) :
    Turn P w K (.Tuple elts kk tpos) (Itet K a) [e, it] e (fun i h => (∃ old, IsEnum h e it ((i : Nat) : Int) old) ∧ h.IsTupleIter it a i ∧ e ≠ it) where
  mem := by simp
  obj := fun i h st b hb => by
    obtain ⟨⟨old, he⟩, ⟨o, ho, hc, hd⟩, _⟩ := st
    have e' : b = e ∨ b = it := by simpa using hb
    rcases e' with z | z
    · rw [z]; exact ⟨_, he, fun v q => nomatch q⟩
    · rw [z]; exact ⟨o, ho, fun v q => by rw [hd] at q; cases q⟩
  keep := fun i h h' st k => let ⟨⟨old, he⟩, hi, hne⟩ := st; ⟨⟨old, k e (by simp) _ he⟩, hi.at fun o q => k it (by simp) o q, hne⟩
  item := by
    intro X hP hw hK hc i pins s σ H E I hf st hg
    subst hP hw hK
    obtain ⟨⟨old, he⟩, hit, hne⟩ := st
    obtain ⟨xs, x, hq, hx⟩ := hg
    obtain ⟨its, rv, p, hz⟩ := I.tuple hq
    obtain ⟨u, hu, ru⟩ := rv.get hx
    have hel : e < s.heap.objs.size := Heap.lt_size he
    have hil : it < s.heap.objs.size := by obtain ⟨_, q, _⟩ := hit; exact Heap.lt_size q
    have hilt : i < its.toArray.size := by
      rw [List.size_toArray]
      exact (List.getElem?_eq_some_iff.mp hu).1
    refine wpAny_pyNext_enum_itemD (Draws.tuple (A := X.A.in1) (I.ok.hd hc) it a hai its.toArray) he ⟨hit, show s.heap.IsTuple a its.toArray from p⟩ hilt hne (by simp [hne, hae]) fun u' h' tk hu' ho hit' hT hsz hk => ?_
    have eu : u' = u := by
      have h1 : its.toArray[i]? = some u := by simpa using hu
      exact Option.some.inj (hu'.symm.trans h1)
    subst eu
    refine ⟨_, rfl, wpAny_letOwnedTupleGo_enum (s := { s with heap := h', toks := tk + 1 }) ho fun h'' he' sb => ?_⟩
    have hT2 : h''.get? s.heap.objs.size = some { cls := .type "tuple", data := .seq #[.int i tk, u'] } := (sb.2 _ (Nat.ne_of_gt hel)).trans hT
    have new : ObjOk X.prog X.w (upd H s.heap.objs.size (.tup [.int (i : Nat), x])) h'' s.heap.objs.size (.tup [.int (i : Nat), x]) :=
      ⟨by show 2 ≤ sizeLine; decide, [.int i tk, u'], .cons ⟨_, rfl⟩ (.cons ru .nil), ⟨_, hT2, rfl, _, rfl⟩⟩
    have I1 : Inv X pins σ (upd H s.heap.objs.size (.tup [.int (i : Nat), x])) { s with heap := h'', toks := tk + 1 } :=
      I.turnedNew (ch := [e, it]) (fun b ob hb q => (sb.2 b (fun z => hb (by simp [z]))).trans (hk b ob (fun z => hb (by simp [z])) (fun z => hb (by simp [z])) q)) hf (Nat.le_refl _) new
    refine ⟨.ref s.heap.objs.size, _, I1, rfl, ⟨_, x, rfl, I.hok.fresh (Nat.le_refl _), rfl, fun ys hy => by rw [I.tuple_inj hy hq]; exact hx⟩, ⟨⟨u', ?_⟩, hit'.1.at fun o q => (sb.2 it (Ne.symm hne)).trans q, hne⟩, fun b hb => ?_⟩
    · have e1 : ((i + 1 : Nat) : Int) = (i : Int) + 1 := by omega
      rw [e1]; exact he'
    · have hb' : b < s.heap.objs.size := by
        have e' : b = e ∨ b = it := by simpa using hb
        rcases e' with z | z
        · rw [z]; exact hel
        · rw [z]; exact hil
      rw [upd_ne (Nat.ne_of_lt hb')]
      exact (hf b hb).1
  done := by
    intro X hP hw hK hc i pins s σ H E I hf st hg
    subst hP hw hK
    obtain ⟨⟨old, he⟩, hit, hne⟩ := st
    obtain ⟨xs, hq, hx⟩ := hg
    obtain ⟨its, rv, p, hz⟩ := I.tuple hq
    obtain ⟨f0, f1, f2, f3, f4, f5⟩ := hf it (by simp)
    have hl := rv.length
    have hT : s.TypeIs (.ref e) "enumerate" := ⟨_, he, rfl⟩
    unfold pyNext
    refine wpAny_bind (wpAny_attempt (wpAny_callSpecial?_slot (name := Str.ofString "__next__") hT F.slot_enumerate_next
      (wpAny_call_entry F.slot_enumerate_next hT F.entry_enumerate_next ?_ (F.args_enumerate_next_1 _))))
    show wpAny _ _ (field (.ref e) 2 >>= _) _ _ _
    refine wpAny_bind (wpAny_field he rfl (x := .ref it) rfl ?_)
    refine wpAny_bind (wpAny_nextOf_tuple_end (I.ok.hd hc) hit (show s.heap.IsTuple a its.toArray from p) (by simp; omega) fun h' x he' hx' => ?_)
    obtain ⟨o, ho, hc⟩ := hx'
    refine wpAny_bind (wpAny_isInstance (T := "StopIteration") (b := true) ⟨o, ho, hc⟩ isSubtype_stop ?_)
    exact wpAny_pure ⟨rfl, I.turned (t' := s.toks) (fun b o hb q => he' b o hb q) f0 f1 f3 f4 f5⟩
  self := fun A i s Q E st h => let ⟨⟨_, he⟩, _⟩ := st; wpAny_pyIter_enum he h
section
variable {X : Cx} {Y : Gam} {W : WX} {e a b c tg iter elt o : Expr} {es rest ifs : List Expr} {ta tb te : TE} {tt tu : TT} {ma mb me : ME} {mt mu : MT} {mf : MF} {t : TA} {m : MA} {pos p apos : Pos} {s : Stmt} {ss : List Stmt} {t1 t2 : TS} {m1 m2 : MS} {wi : TI} {mi : MI} {x f : Str}
def iEnumS (K : PySem.W.Frag) (ta : TA) : TI := fun σ H R => ta σ H fun vs H1 => ∃ a xs, vs = [.ref a] ∧ ((SqL K H1 a xs ∧ R (Ite K a) H1) ∨ (SqT K H1 a xs ∧ R (Itet K a) H1))
theorem pi_enumS {e : Expr} {ta : TA} {p pos tpos : Pos} {elts : List Expr} {kk : Nat} (hg : Gl X "enumerate") (hm : X.mg "enumerate" = none) (ha : PA X [e] ta) (hs : starEach [e] X.env = [(false, eval e X.env)]) :
    PI X (.Tuple elts kk tpos) (.Call (.Name "enumerate" p) [e] [] pos) (iEnumS X.K ta) := by
  refine ⟨fun pins s σ H R I h => ?_⟩
  refine PyProof.Rows.Call_ (ld_blt I hg hm PyProof.Rows.boot_enumerate (PyProof.Rows.callWith_type1 (thn (ha.run pos pins s σ H _ I h) fun us s1 ⟨vs, H1, I1, r1, q1⟩ => ?_) hs rfl))
  obtain ⟨a, xs, ex, q⟩ := q1
  subst ex
  cases r1 with
  | cons r rr =>
    cases rr
    cases r
    rcases q with ⟨hq, q⟩ | ⟨hq, q⟩
    · obtain ⟨its, rv, p', hz⟩ := I1.list hq
      refine call_enumerate_list p'.isList fun h' he hit hsz hk => wpAny_pyIter_enum he ?_
      have I2 : Inv X pins σ H1 { s1 with heap := h' } := I1.kept (t' := s1.toks) hk
      refine ⟨s1.heap.objs.size + 1, [s1.heap.objs.size + 1, s1.heap.objs.size], _, _, H1, rfl, I2, turn_enum a (s1.heap.objs.size + 1) s1.heap.objs.size, ⟨⟨.none, he⟩, hit, Nat.succ_ne_self _⟩, fun b hb => ?_, q⟩
      have e' : b = s1.heap.objs.size + 1 ∨ b = s1.heap.objs.size := by simpa using hb
      have hle : s1.heap.objs.size ≤ b := by
        rcases e' with z | z
        · rw [z]; exact Nat.le_succ _
        · rw [z]; exact Nat.le_refl _
      exact I1.fpOk hle (I1.hok.fresh hle)
    · obtain ⟨its, rv, p', hz⟩ := I1.tuple hq
      have hal : a < s1.heap.objs.size := p'.lt
      refine call_enumerate_tuple (show s1.heap.IsTuple a its.toArray from p') fun h' he hit hsz hk => wpAny_pyIter_enum he ?_
      have I2 : Inv X pins σ H1 { s1 with heap := h' } := I1.kept (t' := s1.toks) hk
      refine ⟨s1.heap.objs.size + 1, [s1.heap.objs.size + 1, s1.heap.objs.size], _, _, H1, rfl, I2, turn_enumT a (s1.heap.objs.size + 1) s1.heap.objs.size (Nat.ne_of_lt hal) (Nat.ne_of_gt (Nat.lt_succ_of_lt hal)), ⟨⟨.none, he⟩, hit, Nat.succ_ne_self _⟩, fun b hb => ?_, q⟩
      have e' : b = s1.heap.objs.size + 1 ∨ b = s1.heap.objs.size := by simpa using hb
      have hle : s1.heap.objs.size ≤ b := by
        rcases e' with z | z
        · rw [z]; exact Nat.le_succ _
        · rw [z]; exact Nat.le_refl _
      exact I1.fpOk hle (I1.hok.fresh hle)
theorem itR_enumT {g : Gam} {w : Wd} {a : Addr} {ds : List D} {vs : List V} (e : SqT g.K w.G a vs) (r : RepL g w ds vs) : ItR g w (Itet g.K a) (enumD 0 ds) := fun w2 H2 l x => by
  have q : SqT g.K H2 a vs := same_sqT (l.ex.trans x) e
  refine ⟨fun i d hd => ?_, ⟨vs, q, by rw [enumD_len, r.len]; exact Nat.le_refl _⟩⟩
  obtain ⟨d', hd', ed⟩ := enumD_at ds 0 i d hd
  obtain ⟨v, hv, rv⟩ := r.at_ hd'
  refine ⟨⟨vs, v, q, hv⟩, fun y H' hy => ?_⟩
  obtain ⟨T, x', e1, e2, e3, e4⟩ := hy
  have e5 := e4 vs q
  rw [hv] at e5
  cases e5
  rw [e1, e3, ed, Nat.zero_add]
  refine ⟨_, Grow.one e2 nt_tup, ?_⟩
  unfold Rep
  have le : w2.le ⟨w2.rho, upd w2.G T (.tup [.int (i : Nat), v])⟩ := ⟨⟨[], by simp⟩, same_upd (none_of_same x e2)⟩
  exact ⟨T, _, rfl, .inl (.inl upd_same), RepL.cons_ rep_int' (RepL.cons_ ((rv.mono l).mono le) RepL.nil_)⟩
def itES (m : MA) : MI := fun env S => (m env S).bind fun ds S1 => match ds with
  | [.lst ds] => .ok (enumD 0 ds) S1
  | [.tup ds] => .ok (enumD 0 ds) S1
  | _ => .stuck
theorem i_enumS {elts : List Expr} {kk : Nat} {tpos : Pos} (hm : X.mg "enumerate" = none) (ha : SA X Y W [e] t m) (hK : X.K = Y.K := by rfl) (hg : Gl X "enumerate" := by rfl) (hs : starEach [e] X.env = [(false, eval e X.env)] := by rfl) :
    SI X Y W (.Tuple elts kk tpos) (.Call (.Name "enumerate" p) [e] [] pos) (iEnumS Y.K t) (itES m) := ⟨hK ▸ pi_enumS hg hm ha.pa hs, fun w0 H0 w H σ env S O Q st p =>
  ha.sim w0 H0 w H σ env S O _ st ((PostX.bind p).imp fun ds S1 w1 H1 st1 l1 p1 vs r => by
    split at p1
    · rename_i ds
      obtain ⟨v, e1, e2⟩ := repL_one r
      obtain ⟨a, us, e3, e4, e5⟩ := rep_lst e2
      rw [e3] at e1
      exact ⟨a, us, e1, .inl ⟨.inl (.inl (st1.ok.ex _ _ e4)), p1 w1 H1 st1 (.refl w1) _ (itR_enum (g := Y) e4 e5)⟩⟩
    · rename_i ds
      obtain ⟨v, e1, e2⟩ := repL_one r
      obtain ⟨a, us, e3, e4, e5⟩ := rep_tup e2
      rw [e3] at e1
      exact ⟨a, us, e1, .inr ⟨same_sqT st1.ok.ex e4, p1 w1 H1 st1 (.refl w1) _ (itR_enumT (g := Y) e4 e5)⟩⟩
    · exact False.elim p1)⟩
theorem own_cell {g : Gam} {w0 w : Wd} {H0 H : Hp} {σ : L2.St} {env : Envr} {S : Sto} {O : List (Option Addr)} {cc : Cell} {q : Addr} (st : StR g w0 H0 w H σ env S O) (a : OwnAt g w H0 H O cc q) :
    StR g w0 H0 ⟨w.rho ++ [q], w.G⟩ H σ env (S ++ [cc]) O ∧ w.le ⟨w.rho ++ [q], w.G⟩ ∧ Rep g ⟨w.rho ++ [q], w.G⟩ (.ref S.length) (.ref q) := by
  have le : w.le ⟨w.rho ++ [q], w.G⟩ := ⟨⟨[q], rfl⟩, Same.refl _⟩
  refine ⟨⟨⟨st.ok.ex, ⟨fun i j b h1 h2 => ?_, ?_, fun k b d h1 h2 => ?_⟩, st.ok.tabs, st.ok.notab⟩, ⟨st.fr.le.trans le, st.fr.keep, st.fr.newG, fun b h => ?_, st.fr.dom, st.fr.tb, st.fr.fz⟩, st.l1, st.l2, fun i s x o e1 e2 e3 => ?_, st.inj, fun i b e => ?_⟩, le, ?_⟩
  · have h1 : (w.rho ++ [q])[i]? = some b := h1
    have h2 : (w.rho ++ [q])[j]? = some b := h2
    have one : ∀ k, ¬ k < w.rho.length → (w.rho ++ [q])[k]? = some b → b = q := fun k hk h => by
      rw [List.getElem?_append_right (by omega)] at h
      cases z : k - w.rho.length with
      | zero => rw [z] at h; simpa using h.symm
      | succ y => rw [z] at h; simp at h
    by_cases hi : i < w.rho.length
    · by_cases hj : j < w.rho.length
      · rw [List.getElem?_append_left hi] at h1
        rw [List.getElem?_append_left hj] at h2
        exact st.ok.cells.nd i j b h1 h2
      · rw [List.getElem?_append_left hi] at h1
        exact absurd (one j hj h2 ▸ List.mem_of_getElem? h1) a.nr
    · by_cases hj : j < w.rho.length
      · rw [List.getElem?_append_left hj] at h2
        exact absurd (one i hi h1 ▸ List.mem_of_getElem? h2) a.nr
      · have l1 := (List.getElem?_eq_some_iff.mp h1).1
        have l2 := (List.getElem?_eq_some_iff.mp h2).1
        simp only [List.length_append, List.length_cons, List.length_nil] at l1 l2
        omega
  · show (w.rho ++ [q]).length = (S ++ [cc]).length
    rw [List.length_append, List.length_append, st.ok.cells.len]
    rfl
  · have h1 : (w.rho ++ [q])[k]? = some b := h1
    by_cases hm : k < w.rho.length
    · rw [List.getElem?_append_left hm] at h1
      rw [List.getElem?_append_left (by rw [← st.ok.cells.len]; exact hm)] at h2
      obtain ⟨q1, q2⟩ := st.ok.cells.at_ k b d h1 h2
      exact ⟨q1, q2.move le rfl⟩
    · rw [List.getElem?_append_right (by omega)] at h1
      rw [List.getElem?_append_right (by rw [← st.ok.cells.len]; omega), ← st.ok.cells.len] at h2
      cases z : k - w.rho.length with
      | zero =>
        rw [z] at h1 h2
        have ea : q = b := by simpa using h1
        have eq' : cc = d := by simpa using h2
        subst ea eq'
        exact ⟨a.ng, a.at_.move le rfl⟩
      | succ y => rw [z] at h1; simp at h1
  · rcases List.mem_append.mp (show b ∈ w.rho ++ [q] from h) with z | z
    · exact st.fr.rho b z
    · have : b = q := by simpa using z
      rw [this]
      exact .inr a.n0
  · have q' := st.sl i s x o e1 e2 e3
    cases s with
    | no => exact q'
    | v d =>
      obtain ⟨z1, v, z2, z3⟩ := q'
      exact ⟨z1, v, z2, z3.mono le⟩
    | o c' =>
      obtain ⟨p', z1, z2, z3, z4⟩ := q'
      exact ⟨p', z1, z2, z3, z4.move le rfl⟩
  · obtain ⟨z1, z2, z3⟩ := st.fresh i b e
    refine ⟨z1, fun h => ?_, z3⟩
    rcases List.mem_append.mp (show b ∈ w.rho ++ [q] from h) with z | z
    · exact z2 z
    · have : b = q := by simpa using z
      exact a.no i (by rw [← this]; exact e)
  · unfold Rep
    refine ⟨q, ?_, rfl⟩
    show (w.rho ++ [q])[S.length]? = some q
    rw [← st.ok.cells.len]
    simp
def sCell (i : Nat) (mf : MF) : MS := fun env S => (mf env S).out env fun c S1 => .nx (env.set i (.v (.ref S1.length))) (S1 ++ [c])
theorem sim_cell {g : Gam} {i : Nat} (h : SimF g W te mf) : SimS g W (tAsg te (gName i)) (sCell i mf) := fun w0 H0 w H σ env S O Dn st p =>
  h w0 H0 w H σ env S O _ st ((PostS.out p).imp fun c S1 w1 H1 st1 l1 p1 q ow => by
    obtain ⟨st2, l2, r2⟩ := own_cell st1 ow
    exact p1 _ H1 _ _ (st2.set_v i r2) l2)
theorem t_cell {i : Nat} {x : Str} {pos' : Pos} (hN : X.N.Nodup) (hi : X.N[i]? = some x) (hx : Loc X.env.scope x) (he : SF X Y W e te mf) (hs : swapsWith e (some (.Name x pos')) pos.line X.env = pure false := by rfl) (hf : X.fn x = true ∨ X.env.scope.names.lookup x = some .local := by first | exact .inl rfl | exact .inr rfl | assumption) :
    SS X Y W (.Assign [.Name x pos'] e pos) (tAsg te (gName i)) (sCell i mf) := ⟨ps_set hN hi hx he.pe hs hf, sim_cell he.sim⟩
def frzAt (i : Nat) (env : Envr) : Envr := match env[i]? with
  | some (.o c) => env.set i (.v c.d)
  | _ => env
def sFrz (i : Nat) (m : MS) : MS := fun env S => m (frzAt i env) S
theorem set_get_self {α : Type} (l : List α) (i : Nat) (x : α) (h : l[i]? = some x) : l.set i x = l := by
  refine List.ext_getElem? fun k => ?_
  rw [List.getElem?_set]
  split
  · rename_i e
    subst e
    split
    · exact h.symm
    · rename_i hl
      rw [List.getElem?_eq_none_iff.mpr (by omega)] at h
      cases h
  · rfl
theorem StR.frz {g : Gam} {w0 w : Wd} {H0 H : Hp} {σ : L2.St} {env : Envr} {S : Sto} {O : List (Option Addr)} (st : StR g w0 H0 w H σ env S O) (i : Nat) : ∃ w' O', StR g w0 H0 w' H σ (frzAt i env) S O' ∧ w.le w' := by
  unfold frzAt
  split
  · rename_i c hs
    obtain ⟨q, e1, e2, e3, e4, e5, e6, hi⟩ := st.own_at hs
    have sl : ∀ (j : Nat) (z : Sl), (env.set i .no)[j]? = some z → (j = i ∧ z = .no) ∨ (j ≠ i ∧ env[j]? = some z) := fun j z h => by
      rw [List.getElem?_set] at h
      split at h
      · rename_i e
        split at h
        · exact .inl ⟨e.symm, (Option.some.inj h).symm⟩
        · cases h
      · rename_i e
        exact .inr ⟨Ne.symm e, h⟩
    have st1 : StR g w0 H0 w H σ (env.set i .no) S (O.set i none) := by
      refine ⟨st.ok, st.fr, by rw [List.length_set]; exact st.l1, by rw [List.length_set]; exact st.l2, fun j s x o h1 h2 h3 => ?_, fun j k r h1 h2 => ?_, fun j r h => ?_⟩
      · rcases sl j s h1 with ⟨z1, z2⟩ | ⟨z1, z2⟩
        · rw [z2]
          rw [List.getElem?_set, if_pos z1.symm] at h3
          split at h3
          · exact (Option.some.inj h3).symm
          · cases h3
        · rw [List.getElem?_set, if_neg (Ne.symm z1)] at h3
          exact st.sl j s x o z2 h2 h3
      · rw [List.getElem?_set] at h1 h2
        split at h1
        · split at h1 <;> cases h1
        · split at h2
          · split at h2 <;> cases h2
          · exact st.inj j k r h1 h2
      · rw [List.getElem?_set] at h
        split at h
        · split at h <;> cases h
        · rename_i hn
          obtain ⟨y1, y2, y3, y4⟩ := st.fresh j r h
          exact ⟨y1, y2, y3, by rw [List.getElem?_set, if_neg hn]; exact y4⟩
    have ow : OwnAt g w H0 H (O.set i none) c q := ⟨e5, e3, e6, fun j h => by
      rw [List.getElem?_set] at h
      split at h
      · split at h <;> cases h
      · rename_i hn
        exact hn (st.inj i j q e2 h), e4⟩
    obtain ⟨w2, st2, l2, r2⟩ := own_freeze st1 ow
    have st3 := st2.set_v i r2
    rw [List.set_set, List.set_set] at st3
    refine ⟨w2, O.set i none, ?_, l2⟩
    have es : σ.set i (some (.ref q)) = σ := set_get_self σ i _ e1
    rw [es] at st3
    exact st3
  · exact ⟨w, O, st, .refl w⟩
theorem sim_sfrz {g : Gam} {i : Nat} (h : SimS g W t1 m1) : SimS g W t1 (sFrz i m1) := fun w0 H0 w H σ env S O Dn st p => by
  obtain ⟨w', O', st', l'⟩ := st.frz i
  exact h w0 H0 w' H σ _ S O' Dn st' (PostS.mono p l')
theorem b_frz (i : Nat) (h : SB X Y W ss t1 m1) : SB X Y W ss t1 (sFrz i m1) := ⟨h.pss, sim_sfrz h.sim⟩
end
end Mm
namespace Mm
open PySem L2
section
variable {X : Cx} {Y : Gam} {W : WX} {e a b c tg iter elt o : Expr} {es rest ifs : List Expr} {ta tb te : TE} {tt tu : TT} {ma mb me : ME} {mt mu : MT} {mf : MF} {t : TA} {m : MA} {pos p apos : Pos} {s : Stmt} {ss : List Stmt} {t1 t2 : TS} {m1 m2 : MS} {wi : TI} {mi : MI} {x f : Str}
def eLenO (i : Nat) : ME := fun env S => match env[i]? with
  | some (.o (.lst ds)) => .ok (.int ds.length) S
  | _ => .stuck
theorem s_lenO (i : Nat) {x : Str} {p1 : Pos} (hm : X.mg "len" = none) (hK : X.K = Y.K := by rfl) (hN : X.N[i]? = some x := by rfl) (hv : Vis X.env.scope x := by first | exact Or.inl rfl | exact Or.inr (Or.inl rfl) | exact Or.inr (Or.inr rfl)) (hd : (x == ("__debug__" : Str)) = false := by decide)
    (hcd : (x == ("__classdict__" : Str)) = false := by decide) (hg : Gl X "len" := by rfl) (he : starEach [.Name x p1] X.env = (false, eval (.Name x p1) X.env) :: starEach [] X.env := by rfl) (hpl : (backTo pos (starEach [] X.env)).any (·.1) = false := by rfl) :
    SE X Y W (.Call (.Name "len" p) [.Name x p1] [] pos) (tCB (rLn Y.K) (tCons (tVar i) tNil)) (eLenO i) := ⟨hK ▸ pe_callB cr_len hg hm PySem.boot_len (pa_cons (pv i hN hv hd hcd) pa_nil he) (by decide) (by decide) he hpl, fun w0 H0 w H σ env S O Q st p => by
  unfold eLenO at p
  split at p
  · rename_i ds hs
    obtain ⟨q, e1, e2, e3, ⟨vs, e4, e4'⟩, e5, e6, hi⟩ := st.own_at hs
    exact ⟨.ref q, e1, .inl ⟨q, vs, rfl, .inl (.inl (.inl e4)), p w H st (.refl w) _ (by rw [e4'.len]; exact rep_int')⟩⟩
  · exact p.elim⟩
def eIxO (i : Nat) (mk : ME) : ME := fun env S => match env[i]? with
  | some (.o (.lst ds)) => (mk env S).bind fun k S1 => (match k with
    | .int k => opt (atI ds k) S1
    | _ => .stuck)
  | _ => .stuck
theorem get_list : PGet X (rIxL X.K) := by
  intro pins s σ H x y v u Q I rx ry h
  obtain ⟨p, xs, i, z, rfl, rfl, hq, he, q⟩ := h
  cases rx
  obtain ⟨t, rfl⟩ := ry
  obtain ⟨its, r, pl, hz⟩ := I.list hq
  obtain ⟨j, h1, h2, h3, h4, h5⟩ := atI_get he
  obtain ⟨w, ew, rw'⟩ := r.get h2
  have hl := r.length
  have hn := line63
  have fin : EP X pins σ Q w s := ⟨z, H, I, rw', q⟩
  by_cases h0 : 0 ≤ i
  · have hj : i.toNat = j := by
      rw [seqIndex_of h0 h5] at h1
      exact Option.some.inj h1
    exact wpAny_getItem_list pl.isList h0 (by omega) (by rw [hj]; simpa using ew) fin
  · have hj : (i + (its.toArray.size : Int)).toNat = j := by
      rw [seqIndex_neg (by omega) h4] at h1
      rw [List.size_toArray, ← hl]
      exact Option.some.inj h1
    exact wpAny_getItem_list_neg pl.isList (by omega) (by rw [List.size_toArray] <;> omega) (by omega) (by rw [hj]; simpa using ew) fin
def sAugC (mo mk : ME) (f : Int → Int → Int) (me : ME) : MS := fun env S => (mo env S).out env fun o S1 => (mk env S1).out env fun k S2 => match o, k with
  | .ref n, .int k => (match S2[n]? with
    | some (.lst ds) => (match atI ds k with
      | some (.int x) => (me env S2).out env fun d S3 => (match d, S3[n]? with
        | .int y, some (.lst ds') => (match ixN ds'.length k with
          | some j => .nx env (S3.set n (.lst (ds'.set j (.int (f x y)))))
          | none => .stuck)
        | _, _ => .stuck)
      | _ => .stuck)
    | _ => .stuck)
  | _, _ => .stuck
theorem t_augC {op : Operator} {f : Int → Int → Int} {p2 : Pos} (hp : PIp X op (ipI f)) (ho : SE X Y W o ta ma) (hk : SE X Y W b tb mb) (he : SE X Y W e te me) (hK : X.K = Y.K := by rfl)
    (ha : ∀ ov iv new, augStore b ov iv new = (do holding [new, ov, iv] (setItem ov iv new); release [new, ov, iv] []; pure .next) := by intros; rfl) :
    SS X Y W (.AugAssign (.Subscript o b p2) op e pos) (tAugS ta tb te (rIxL Y.K) (ipI f) rSetL) (sAugC ma mb f me) := ⟨hK ▸ ps_augS ho.pe hk.pe get_list he.pe hp set_list ha, fun w0 H0 w H σ env S O Dn st p =>
  ho.sim w0 H0 w H σ env S O _ st ((PostS.out p).imp fun od S1 w1 H1 st1 l1 p1 ov or => hk.sim w0 H0 w1 H1 σ env S1 O _ st1 ((PostS.out p1).imp fun k S2 w2 H2 st2 l2 p2 kv kr => by
    split at p2
    · rename_i n k
      split at p2
      · rename_i ds hS
        split at p2
        · rename_i x hx
          obtain ⟨q, us, x1, x2, x3, x4⟩ := cell_lst st2.ok (or.mono l2) hS
          obtain ⟨v, g1, g2⟩ := x4.atI_ hx
          refine ⟨q, us, k, v, x1, rep_int kr, .inl (.inl x3), g1, ?_⟩
          refine he.sim w0 H0 w2 H2 σ env S2 O _ st2 ((PostS.out p2).imp fun d S3 w3 H3 st3 l3 p3 dv dr => ?_)
          split at p3
          · rename_i y ds' hS3
            split at p3
            · rename_i j hj
              obtain ⟨q', us', y1, y2, y3, y4⟩ := cell_lst st3.ok (or.mono (l2.trans l3)) hS3
              refine ⟨x, y, rep_int g2, rep_int dr, q', us', k, j, y1, rep_int kr, y3, by rw [← y4.len]; exact hj, ?_⟩
              obtain ⟨k4, f4⟩ := ok_cell (c' := .lst (ds'.set j (.int (f x y)))) st3.ok y2 hS3 (o := .lst (us'.set j (.int (f x y)))) ⟨_, upd_same, y4.set_ rep_int' j⟩ nt_lst
              exact p3 w3 _ σ O (st3.after f4 k4) (.refl w3)
            · exact False.elim p3
          · exact False.elim p3
        · exact False.elim p2
      · exact False.elim p2
    · exact False.elim p2))⟩
variable {k n : Nat} {fa C : Addr} {fd : FuncData} {ps : List Str} {mfn : MFn} {ds : List Value}
theorem takesN {X : Cx} : L2N.Takes X (fun _ _ _ _ => False) := fun _ _ z => (show False by
  obtain ⟨_, _, _, _, _, _, _, _, _, _, _, _, _, _, _, _, q⟩ := z
  exact q).elim
end
end Mm
namespace Mm
open PySem L2
section
variable (P : Program) (w : World) (K : PySem.W.Frag) (mg : Str → Option Value) (base : Heap) (Y : Gam)
def Kn (k : Nat) (x : Str) (n : Nat) (mf : MFn) (dvs : List V) (dd : List D) : Prop := ∃ f fd ps ds, FnOk P w K mg base (L2N.CX P w) k f fd ps (spOf Y n mf) ∧ mg x = some (.ref f) ∧ PySem.W.keepIn K (.ref f) = true ∧ Binds K fd ps ds ∧ Vals dvs ds ∧ ∀ w, RepL Y w dd dvs
def KnM (k : Nat) (c x : Str) (n : Nat) (mf : MFn) (dvs : List V) (dd : List D) : Prop := ∃ f fd ps ds, FnOk P w K mg base (L2N.CX P w) k f fd ps (spOf Y n mf) ∧ Cls K (Y.ca c) ∧ Meth K (Y.ca c) x f ∧ Binds K fd ps ds ∧ Vals dvs ds ∧ ∀ w, RepL Y w dd dvs
def KnC (k : Nat) (x : Str) (n : Nat) (mf : MFn) (dvs : List V) (dd : List D) : Prop := ∃ f fd ps ds, FnOk P w K mg base (L2N.CX P w) k f fd ps (spOf Y n mf) ∧ Mk K (Y.ca x) f ∧ mg x = some (.ref (Y.ca x)) ∧ Binds K fd ps ds ∧ Vals dvs ds ∧ ∀ w, RepL Y w dd dvs
end
structure KnX (K : PySem.W.Frag) (mg : Str → Option Value) (Y : Gam) (x : Str) : Prop where
  xP : PySem.W.excIn K (Y.ca x) [.type "ValueError", .type "Exception", .type "BaseException", .type "object"] "ValueError.__new__" = true
  gP : mg x = some (.ref (Y.ca x))
  kP : PySem.W.keepIn K (.ref (Y.ca x)) = true
  bP : PySem.W.subIn K (.ref (Y.ca x)) (.type "BaseException") = some true
  tP : PySem.W.typeIn K (.ref (Y.ca x)) = some (.type "type")
structure Bl (mg : Str → Option Value) : Prop where
  len : mg "len" = none
  range : mg "range" = none
  enumerate : mg "enumerate" = none
  zip : mg "zip" = none
  sorted : mg "sorted" = none
  sum : mg "sum" = none
  all : mg "all" = none
  any : mg "any" = none
  list : mg "list" = none
  tuple : mg "tuple" = none
  int : mg "int" = none
  isinstance : mg "isinstance" = none
  min : mg "min" = none
  max : mg "max" = none
  set : mg "set" = none
  abs : mg "abs" = none
  bool : mg "bool" = none
  str : mg "str" = none
  repr : mg "repr" = none
  dict : mg "dict" = none
section
variable {X : Cx} {Y : Gam} {W : WX} {e a b c tg iter elt o : Expr} {es rest ifs : List Expr} {ta tb te : TE} {tt tu : TT} {ma mb me : ME} {mt mu : MT} {mf : MF} {t : TA} {m : MA} {pos p apos : Pos} {s : Stmt} {ss : List Stmt} {t1 t2 : TS} {m1 m2 : MS} {wi : TI} {mi : MI} {x f : Str}
variable {k n : Nat} {mfn : MFn} {dvs : List V} {dd : List D}
theorem u_call (h : Kn X.prog X.w X.K X.mg X.base Y k x n mfn dvs dd) (hr : Room k X.A) (tk : L2N.Takes X W)
    (ha : SA X Y W (e :: es) t m) (hn : (e :: es).length + dd.length = n := by rfl) (hg : Gl X x := by rfl) (hdb : (x == ("__debug__" : Str)) = false := by decide) (he : starEach (e :: es) X.env = (false, eval e X.env) :: starEach es X.env := by rfl) (hpl : (backTo pos (starEach es X.env)).any (·.1) = false := by rfl) :
    SE X Y W (.Call (.Name x p) (e :: es) [] pos) (tCallSD (spOf Y n mfn) dvs (WE W) t) (eCall mfn dd m) := by
  obtain ⟨f, fd, ps, ds, F, hm, hk, hb, hd, hdv⟩ := h
  exact s_call F hr hm hk hb hd hdv tk ha hn hg hdb he hpl
theorem v_call (h : Kn X.prog X.w X.K X.mg X.base Y k x n mfn dvs dd) (hr : Room k X.A) (tk : L2N.Takes X W)
    (ha : SA X Y W (e :: es) t m) (hn : (e :: es).length + dd.length = n := by rfl) (hg : Gl X x := by rfl) (hdb : (x == ("__debug__" : Str)) = false := by decide) (he : starEach (e :: es) X.env = (false, eval e X.env) :: starEach es X.env := by rfl) (hpl : (backTo pos (starEach es X.env)).any (·.1) = false := by rfl) :
    SF X Y W (.Call (.Name x p) (e :: es) [] pos) (tCallSD (spOf Y n mfn) dvs (WE W) t) (fCall mfn dd m) := by
  obtain ⟨f, fd, ps, ds, F, hm, hk, hb, hd, hdv⟩ := h
  exact f_call F hr hm hk hb hd hdv tk ha hn hg hdb he hpl
theorem u_meth (c : Str) {pl : Sem Bool} (h : KnM X.prog X.w X.K X.mg X.base Y k c x n mfn dvs dd) (hr : Room k X.A) (tk : L2N.Takes X W) (ho : SE X Y W o ta ma)
    (ha : SA X Y W (e :: es) t m) (hn : (e :: es).length + dd.length + 1 = n := by rfl) (hst : starEach (e :: es) X.env = (false, eval e X.env) :: starEach es X.env := by rfl) (hpl : (backTo pos (starEach es X.env)).any (·.1) = false := by rfl)
    (ht : eval (.Call (.Attribute o x apos) (e :: es) [] pos) X.env = (do
      let ov ← eval o X.env
      standAt apos.atName
      let (f, first) ← holding [ov] (getMethod ov x pl)
      callWith pos f first (backTo pos (starEach (e :: es) X.env)) (backToKw pos (keywordEach [] X.env))) := by rfl) :
    SE X Y W (.Call (.Attribute o x apos) (e :: es) [] pos) (tMethS (Y.ca c) x (spOf Y n mfn) dvs (WE W) ta t) (eMeth c x mfn dd ma m) := by
  obtain ⟨f, fd, ps, ds, F, hC, hm, hb, hd, hdv⟩ := h
  exact s_meth c ho hC hm F hr hb hd hdv tk ha hn hst hpl ht
theorem u_meth0 (c : Str) {pl : Sem Bool} (h : KnM X.prog X.w X.K X.mg X.base Y k c x n mfn dvs dd) (hr : Room k X.A) (tk : L2N.Takes X W) (ho : SE X Y W o ta ma)
    (hn : dd.length + 1 = n := by rfl)
    (ht : eval (.Call (.Attribute o x apos) [] [] pos) X.env = (do
      let ov ← eval o X.env
      standAt apos.atName
      let (f, first) ← holding [ov] (getMethod ov x pl)
      callWith pos f first (backTo pos (starEach [] X.env)) (backToKw pos (keywordEach [] X.env))) := by rfl) :
    SE X Y W (.Call (.Attribute o x apos) [] [] pos) (tMethS (Y.ca c) x (spOf Y n mfn) dvs (WE W) ta tNil) (eMeth c x mfn dd ma aNil) := by
  obtain ⟨f, fd, ps, ds, F, hC, hm, hb, hd, hdv⟩ := h
  exact s_meth0 c ho hC hm F hr hb hd hdv tk hn ht
theorem u_new (h : KnC X.prog X.w X.K X.mg X.base Y k x n mfn dvs dd) (hr : Room (k + 1) X.A) (tk : L2N.Takes X W)
    (ha : SA X Y W (e :: es) t m) (hn : (e :: es).length + dd.length + 1 = n := by rfl) (hg : Gl X x := by rfl) (hdb : (x == ("__debug__" : Str)) = false := by decide) (he : starEach (e :: es) X.env = (false, eval e X.env) :: starEach es X.env := by rfl) (hpl : (backTo pos (starEach es X.env)).any (·.1) = false := by rfl) :
    SE X Y W (.Call (.Name x p) (e :: es) [] pos) (tMakeS (Y.ca x) (spOf Y n mfn) dvs (WE W) t) (eNew x mfn dd m) := by
  obtain ⟨f, fd, ps, ds, F, M, hm, hb, hd, hdv⟩ := h
  exact s_new M F hr hm hb hd hdv tk ha hn hg hdb he hpl
theorem u_int {x : Str} {i : Int} (hm : ∃ u, X.mg x = some (.int i u)) (hg : Gl X x := by rfl) (hd : (x == ("__debug__" : Str)) = false := by decide) : SE X Y W (.Name x pos) (tC (.int i)) (eC (.int i)) := by
  obtain ⟨u, hm⟩ := hm
  exact s_gint hm hg hd
theorem u_raise {x : Str} {pos' : Pos} (h : KnX X.K X.mg Y x) (tk : L2N.Takes X W) (hc : X.calm = true := by rfl) (hg : Gl X x := by rfl) (hdb : (x == ("__debug__" : Str)) = false := by decide) :
    SS X Y W (.Raise (some (.Call (.Name x p) [] [] pos)) none pos') (fun _ σ H => W (.ref (Y.ca x)) none σ H) (sRaise x) := t_raise h.xP h.gP h.kP h.bP h.tP tk hc hg hdb
theorem u_set (i : Nat) {x : Str} {pos' : Pos} (he : SE X Y W e te me) (hN : X.N.Nodup) (hi : X.N[i]? = some x := by rfl) (hx : Loc X.env.scope x := by first | exact Or.inl rfl | exact Or.inr rfl) (hs : swapsWith e (some (.Name x pos')) pos.line X.env = pure false := by rfl) (hf : X.fn x = true ∨ X.env.scope.names.lookup x = some .local := by first | exact .inl rfl | exact .inr rfl | assumption) :
    SS X Y W (.Assign [.Name x pos'] e pos) (tAsg te (gName i)) (sAsg me (gN i)) := t_set hN hi hx he hs hf
theorem u_own (i : Nat) {x : Str} {pos' : Pos} (he : SF X Y W e te mf) (hN : X.N.Nodup) (hi : X.N[i]? = some x := by rfl) (hx : Loc X.env.scope x := by first | exact Or.inl rfl | exact Or.inr rfl) (hs : swapsWith e (some (.Name x pos')) pos.line X.env = pure false := by rfl) (hf : X.fn x = true ∨ X.env.scope.names.lookup x = some .local := by first | exact .inl rfl | exact .inr rfl | assumption) :
    SS X Y W (.Assign [.Name x pos'] e pos) (tAsg te (gName i)) (sOwn i mf) := t_own hN hi hx he hs hf
theorem u_cell (i : Nat) {x : Str} {pos' : Pos} (he : SF X Y W e te mf) (hN : X.N.Nodup) (hi : X.N[i]? = some x := by rfl) (hx : Loc X.env.scope x := by first | exact Or.inl rfl | exact Or.inr rfl) (hs : swapsWith e (some (.Name x pos')) pos.line X.env = pure false := by rfl) (hf : X.fn x = true ∨ X.env.scope.names.lookup x = some .local := by first | exact .inl rfl | exact .inr rfl | assumption) :
    SS X Y W (.Assign [.Name x pos'] e pos) (tAsg te (gName i)) (sCell i mf) := t_cell hN hi hx he hs hf
theorem u_g (i : Nat) {x : Str} (hN : X.N.Nodup) (hi : X.N[i]? = some x := by rfl) (hx : Loc X.env.scope x := by first | exact Or.inl rfl | exact Or.inr rfl) (hf : X.fn x = true ∨ X.env.scope.names.lookup x = some .local := by first | exact .inl rfl | exact .inr rfl | assumption) : SG X Y [i] (.Name x pos) (gName i) (gN i) := g_name hN hi hx hf
theorem u_aug (i : Nat) {x : Str} {op : Operator} {f : Int → Int → Int} {pos' : Pos} (ho : PIp X op (ipI f)) (he : SE X Y W e te me) (hN : X.N.Nodup) (hi : X.N[i]? = some x := by rfl) (hx : Loc X.env.scope x := by first | exact Or.inl rfl | exact Or.inr rfl) (hf : X.fn x = true ∨ X.env.scope.names.lookup x = some .local := by first | exact .inl rfl | exact .inr rfl | assumption) :
    SS X Y W (.AugAssign (.Name x pos') op e pos) (tAug i te (ipI f)) (sAug i f me) := t_aug hN hi hx ho he hf
def eLenA (i : Nat) : ME := fun env S => match env[i]? with
  | some (.o (.lst ds)) => .ok (.int ds.length) S
  | some (.v d) => opt (fLen S [d]) S
  | _ => .stuck
theorem u_lenA (i : Nat) {x : Str} {p1 : Pos} (hm : X.mg "len" = none) (hK : X.K = Y.K := by rfl) (hN : X.N[i]? = some x := by rfl) (hv : Vis X.env.scope x := by first | exact Or.inl rfl | exact Or.inr (Or.inl rfl) | exact Or.inr (Or.inr rfl)) (hd : (x == ("__debug__" : Str)) = false := by decide)
    (hcd : (x == ("__classdict__" : Str)) = false := by decide) (hg : Gl X "len" := by rfl) (he : starEach [.Name x p1] X.env = (false, eval (.Name x p1) X.env) :: starEach [] X.env := by rfl) (hpl : (backTo pos (starEach [] X.env)).any (·.1) = false := by rfl) :
    SE X Y W (.Call (.Name "len" p) [.Name x p1] [] pos) (tCB (rLn Y.K) (tCons (tVar i) tNil)) (eLenA i) := ⟨(s_lenO (Y := Y) (W := W) i hm hK hN hv hd hcd hg he hpl).pe, fun w0 H0 w H σ env S O Q st pp => by
  unfold eLenA at pp
  split at pp
  · rename_i ds hs
    exact (s_lenO (X := X) (Y := Y) (W := W) (p := p) i hm hK hN hv hd hcd hg he hpl).sim w0 H0 w H σ env S O Q st (by
      unfold eLenO
      rw [hs]
      exact pp)
  · rename_i d hs
    exact sim_cb (g := Y) (cd_len (g := Y)) ((a_cons (Y := Y) (W := W) (sv i (X := X) hN hv hd hcd) a_nil he).sim) w0 H0 w H σ env S O Q st (by
      unfold eCB aCons aNil eV
      rw [hs]
      exact pp)
  · exact pp.elim⟩
def eIxA (i : Nat) (mk : ME) : ME := fun env S => match env[i]? with
  | some (.o (.lst ds)) => (mk env S).bind fun k S1 => (match k with
    | .int k => opt (atI ds k) S1
    | _ => .stuck)
  | some (.v d) => (mk env S).bind fun k S1 => opt (fIx S1 d k) S1
  | _ => .stuck
theorem u_ixA (i : Nat) {x : Str} {p1 : Pos} (hk : SE X Y W a ta ma) (hs : PlainIx a) (hK : X.K = Y.K := by rfl) (hN : X.N[i]? = some x := by rfl) (hv : Vis X.env.scope x := by first | exact Or.inl rfl | exact Or.inr (Or.inl rfl) | exact Or.inr (Or.inr rfl)) (hd : (x == ("__debug__" : Str)) = false := by decide)
    (hcd : (x == ("__classdict__" : Str)) = false := by decide) : SE X Y W (.Subscript (.Name x p1) a pos) (tOp (fun x y H Q => rIxL Y.K x y H Q ∨ rIxT Y.K x y H Q) (tVar i) ta) (eIxA i ma) := ⟨hK ▸ pe_ix ix_lt (pv i hN hv hd hcd) hk.pe hs, fun w0 H0 w H σ env S O Q st p => by
  unfold eIxA at p
  split at p
  · rename_i ds hs
    obtain ⟨q, e1, e2, e3, e4, e5, e6, hi⟩ := st.own_at hs
    refine ⟨.ref q, e1, ?_⟩
    refine hk.sim w0 H0 w H σ env S O _ st ((PostX.bind p).imp fun k S1 w1 H1 st1 l1 p1 kv kr => ?_)
    split at p1
    · rename_i k
      obtain ⟨d, e, kk⟩ := PostX.opt_ p1 st1
      obtain ⟨q', f1, f2, f3, ⟨us, f4, f4'⟩, f5, f6, _⟩ := st1.own_at hs
      rw [e2] at f2
      cases f2
      obtain ⟨v, g1, g2⟩ := f4'.atI_ e
      exact .inl ⟨q, us, k, v, rfl, rep_int kr, .inl (.inl f4), g1, kk w1 H1 st1 (.refl w1) v g2⟩
    · exact False.elim p1
  · rename_i d hs
    exact sim_op (g := Y) (od_ix (g := Y)) ((sv i (X := X) (Y := Y) (W := W) (pos := p1) hN hv hd hcd).sim) hk.sim w0 H0 w H σ env S O Q st (by
      unfold eOp eV
      rw [hs]
      exact p)
  · exact p.elim⟩
end
section
variable {P : Program} {w : World} {K : PySem.W.Frag} {mg : Str → Option Value} {base : Heap} {Y : Gam}
abbrev FnP (K : PySem.W.Frag) (x qual : Str) (st : Stmt) (dvs : List V) (f : Addr) (fd : FuncData) : Prop := FunD K x qual (defArgs st) (defBody st) (defScope st) dvs [] f fd
theorem kn_of {k n : Nat} {x : Str} {st : Stmt} {f : Addr} {fd : FuncData} {ps : List Str} {mf : MFn} (F : FnP K x x st [] f fd) (g : mg x = some (.ref f)) (b : Binds K fd ps []) (h : FnOk P w K mg base (L2N.CX P w) k f fd ps (spOf Y n mf)) : Kn P w K mg base Y k x n mf [] [] :=
  ⟨f, fd, ps, [], h, g, F.kp, b, .nil, fun _ => RepL.nil_⟩
theorem knM_of {k n : Nat} {c x qual : Str} {st : Stmt} {f : Addr} {fd : FuncData} {ps : List Str} {mf : MFn} (F : FnP K x qual st [] f fd) (C : Cls K (Y.ca c)) (M : Meth K (Y.ca c) x f) (b : Binds K fd ps []) (h : FnOk P w K mg base (L2N.CX P w) k f fd ps (spOf Y n mf)) : KnM P w K mg base Y k c x n mf [] [] :=
  ⟨f, fd, ps, [], h, C, M, b, .nil, fun _ => RepL.nil_⟩
theorem knC_of {k n : Nat} {x qual : Str} {st : Stmt} {f : Addr} {fd : FuncData} {ps : List Str} {mf : MFn} (F : FnP K "__init__" qual st [] f fd) (M : Mk K (Y.ca x) f) (g : mg x = some (.ref (Y.ca x))) (b : Binds K fd ps []) (h : FnOk P w K mg base (L2N.CX P w) k f fd ps (spOf Y n mf)) : KnC P w K mg base Y k x n mf [] [] :=
  ⟨f, fd, ps, [], h, M, g, b, .nil, fun _ => RepL.nil_⟩
end
end Mm
namespace Mm
open PySem L2
abbrev GY (K : PySem.W.Frag) (ca : Str → Addr) (T : List (Addr × Str)) : Gam := ⟨K, ca, T⟩
end Mm
namespace Mm
open PySem L2
noncomputable def plainH (H : Hp) : Hp := fun a => match H a with
  | some (.tbl _) => none
  | o => o
theorem plainH_same (H : Hp) : Same (plainH H) H := fun a o h => by
  unfold plainH at h
  split at h
  · cases h
  · exact h
theorem plainH_notab (H : Hp) (a : Addr) (ps : Array Value) : plainH H a ≠ some (.tbl ps) := fun h => by
  unfold plainH at h
  split at h
  · cases h
  · rename_i z
    exact z ps h
theorem plainH_of {H : Hp} {a : Addr} {o : HO} (h : H a = some o) (n : ∀ ps, o ≠ .tbl ps) : plainH H a = some o := by
  unfold plainH
  rw [h]
  split
  · rename_i q z
    exact absurd (Option.some.inj z) (n _)
  · rfl
theorem plainH_sql {K : PySem.W.Frag} {H : Hp} {a : Addr} {xs : List V} (h : SqL K H a xs) : SqL K (plainH H) a xs := by
  rcases h with (h | ⟨o, h⟩) | h
  · exact .inl (.inl (plainH_of h fun _ z => by cases z))
  · exact .inl (.inr ⟨o, plainH_of h fun _ z => by cases z⟩)
  · exact .inr h
theorem law_sp {K : PySem.W.Frag} {ca : Str → Addr} {T : List (Addr × Str)} {H : Hp} {a : Addr} {ns : List Int} {m : MFn} {S : Sto} (hT : ∀ p ∈ T, H p.1 = some (.tbl #[]))
    (hS : SqL K H a (ns.map V.int)) (hm : m [.scr ns] [] = .ok (.val (.bl true)) S) : spOf (GY K ca T) 1 m [.ref a] H (fun v _ => v = .bl true) fun _ _ _ => False := by
  refine ⟨rfl, ⟨[], plainH H⟩, [.scr ns], [], ⟨plainH_same H, ⟨fun i j b h _ => by simp at h, rfl, fun n b c h _ => by simp at h⟩, fun p hp => LamX.TabS.nil (hT p hp), plainH_notab H⟩, RepL.cons_ ?_ RepL.nil_, ?_⟩
  · unfold Rep
    exact ⟨a, rfl, plainH_sql hS⟩
  · rw [hm]
    intro w' H' v _ _ r
    exact rep_bl (g := GY K ca T) (w := w') r
theorem exAt {es : List (PySem.W.Frag → Bool)} {K : PySem.W.Frag} (h : (es.all fun f => f K) = true) (i : Nat) {f : PySem.W.Frag → Bool} (e : es[i]? = some f) : f K = true := List.all_eq_true.mp h f (List.mem_of_getElem? e)
theorem cx_none (P : Program) (w : World) (H : Hp) (s : Shared) (e : Value) (s' : Shared) (h : L2N.CX P w [] H s (fun _ _ _ => False) e s') : False := by
  obtain ⟨_, _, _, _, _, _, _, _, _, _, _, _, z⟩ := h
  exact z
def blFa : List He.Fa := [.free "len", .free "range", .free "enumerate", .free "zip", .free "sorted", .free "sum", .free "all", .free "any", .free "list", .free "tuple", .free "int", .free "isinstance", .free "min", .free "max", .free "set", .free "abs", .free "bool", .free "str", .free "repr", .free "dict"]
theorem bl_of {K : PySem.W.Frag} {h : Heap} {mg : Str → Option Value} (X : K.In h) (G : h.Ns mainGlobals mg) (c : ∀ f ∈ blFa, f.ok K = true) : Bl mg := by
  have g : ∀ x : Str, He.Fa.free x ∈ blFa → mg x = none := fun x hx => He.free_ok X G (c _ hx)
  constructor <;> exact g _ (by simp [blFa])
theorem knX_of {K : PySem.W.Frag} {h : Heap} {mg : Str → Option Value} {T : List (Addr × Str)} (X : K.In h) (G : h.Ns mainGlobals mg) {x : Str} (c1 : (He.Fa.glo x).ok K = true) (c2 : (He.Fa.exc x).ok K = true) : KnX K mg (GY K (He.ga K) T) x := by
  obtain ⟨e1, e2, e3, e4⟩ := He.exc_ok c2
  exact ⟨e1, He.glo_ok X G c1, e2, e3, e4⟩
end Mm
namespace Mm
open PySem PySem.Spec PyProof.Rows L2
section
variable {prog : Program} {w : World} {A : Around} {E : Value → Shared → Prop} {s : Shared}
theorem iadd_lists {l b : Addr} {items items2 : Array Value} {n n2 : Nat} {Q : Value → Shared → Prop} (hl : s.heap.get? l = some { cls := .type "list", dict := none, data := .seq items n, slots := #[] }) (hb : s.heap.get? b = some { cls := .type "list", dict := none, data := .seq items2 n2, slots := #[] })
    (hsz : items.size + items2.size ≤ sizeLine) (h : Q (.ref l) { s with heap := s.heap.update l (Obj.mapSeq fun x => x ++ items2) }) : wpAny (model prog w) A (inplaceOp .Add (.ref l) (.ref b)) Q E s := by
  have ha' : s.TypeIs (.ref l) "list" := ⟨_, hl, rfl⟩
  have hb' : s.TypeIs (.ref b) "list" := ⟨_, hb, rfl⟩
  have look := F.slot_list_iadd.lookup
  have hfi : fillsInplaceSlot (.type "list") "add" (Operator.Add == .Add) = pure false := by
    unfold fillsInplaceSlot
    show (typeLookup (.type "list") (dunderI "add") >>= fun fi => pure (fi.isSome && !isSeqSlot fi)) = pure false
    rw [look]
    rfl
  have hsi : seqSlot? (.type "list") (dunderI "add") = pure (some (.builtin "list.__iadd__")) := by
    unfold seqSlot?
    rw [look]
    rfl
  unfold inplaceOp
  refine wpAny_holding (wpAny_bind (wpAny_typeOf ha' (wpAny_bind (wpAny_of_eq hfi ?_))))
  show wpAny _ A (if false = true then _ else _) Q E s
  rw [if_neg Bool.false_ne_true]
  refine wpAny_bind (wpAny_binaryOp1_none (nm := "add") ha' hb' noFill_list_add ?_)
  refine wpAny_bind (wpAny_of_eq hsi (wpAny_bind (wpAny_rule ?_)))
  have hlong : ¬ (!items.isEmpty && Builtin.List.listTooLong (items.size + items2.size)) = true := by
    rw [notLongL hsz, Bool.and_false]
    exact Bool.false_ne_true
  exact call_meets F.slot_list_iadd ha' F.entry_list_iadd (F.args_list_iadd_2 _ _) (AutoSeq1.list___iadd___list_list_0 l items n b items2 n2 hlong (by omega) (by omega)) ⟨hl, hb, h⟩
end
def ipL : TIp := fun x y H Q => ∃ l b xs zs, x = .ref l ∧ y = .ref b ∧ H l = some (.lst xs) ∧ H b = some (.lst zs) ∧ xs.length + zs.length ≤ sizeLine ∧ Q (.ref l) (upd H l (.lst (xs ++ zs)))
theorem ip_lists {X : Cx} : PIp X .Add ipL := by
  intro pins s σ H x y v u Q I rx ry h
  obtain ⟨l, b, xs, zs, rfl, rfl, hH, hB, hz, q⟩ := h
  cases rx
  cases ry
  obtain ⟨z, its, n, r, hl, e⟩ := I.lstM hH
  obtain ⟨z2, its2, n2, r2, hl2, e2⟩ := I.lstM hB
  refine iadd_lists e e2 (by rw [List.size_toArray, List.size_toArray]; omega) ⟨.ref l, _, I.lset (its' := its ++ its2) (t' := s.toks) hH e (by simp) (r.append r2) ?_, rfl, q⟩
  rw [List.length_append]
  omega
section
variable {X : Cx} {Y : Gam} {W : WX} {e a b c tg iter elt l : Expr} {es rest ifs : List Expr} {ta tb te tl : TE} {tt tu : TT} {ma mb me ml : ME} {mt mu : MT} {mf : MF} {t : TA} {m : MA} {pos p tpos : Pos} {s : Stmt} {ss : List Stmt} {t1 t2 : TS} {m1 m2 : MS} {wi : TI} {mi : MI} {x : Str}
def sExt (i : Nat) (me : ME) : MS := fun env S => match env[i]? with
  | some (.o (.lst xs)) => (me env S).out env fun d S1 => (match d with
    | .lst ys => if szB (xs.length + ys.length) then .nx (env.set i (.o (.lst (xs ++ ys)))) S1 else .stuck
    | _ => .stuck)
  | _ => .stuck
theorem t_ext (i : Nat) {pos' : Pos} (he : SE X Y W e te me) (hN : X.N.Nodup) (hi : X.N[i]? = some x := by rfl) (hx : Loc X.env.scope x := by first | exact Or.inl rfl | exact Or.inr rfl) (hf : X.fn x = true ∨ X.env.scope.names.lookup x = some .local := by first | exact .inl rfl | exact .inr rfl | assumption) :
    SS X Y W (.AugAssign (.Name x pos') .Add e pos) (tAug i te ipL) (sExt i me) := ⟨ps_aug hN hi hx he.pe ip_lists hf, fun w0 H0 w H σ env S O Dn st p => by
  unfold sExt at p
  split at p
  · rename_i xs hs
    obtain ⟨q, e1, e2, e3, e4, e5, e6, hi⟩ := st.own_at hs
    refine ⟨.ref q, e1, ?_⟩
    refine he.sim w0 H0 w H σ env S O _ st ((PostS.out p).imp fun d S1 w1 H1 st1 l1 p1 v r => ?_)
    split at p1
    · rename_i ys
      split at p1
      · rename_i hz
        obtain ⟨q', f1, f2, f3, ⟨us, f4, f4'⟩, f5, f6, _⟩ := st1.own_at hs
        rw [e2] at f2
        cases f2
        obtain ⟨b, zs, g1, g2, g3⟩ := rep_lst r
        refine ⟨q, b, us, zs, rfl, g1, f4, st1.ok.ex _ _ g2, by rw [← f4'.len, ← g3.len]; exact szB_le hz, ?_⟩
        show Dn.nx (σ.set i (some (V.ref q))) _
        rw [set_get_self σ i _ e1]
        exact p1 w1 _ σ O (st1.mut hs e2 ⟨_, upd_same, f4'.append_ g3⟩ nt_lst) (.refl w1)
      · exact False.elim p1
    · exact False.elim p1
  · exact p.elim⟩
variable {scope : Scope} {own : List (Str × Nat)} {is : List Nat} {tgs : TGs} {mgs : MGs} {k : Nat}
end
end Mm
namespace Mm
open PySem PySem.Spec PyProof.Rows L2
def tSem (X : Cx) (e : Expr) : TE := fun σ H Q => ∀ pins s, Inv X pins σ H s → wpAny (model X.prog X.w) X.A (eval e X.env) (EP X pins σ Q) X.xe s
theorem pe_sem {X : Cx} {e : Expr} : PE X e (tSem X e) := ⟨fun pins s σ H Q I h => h pins s I⟩
end Mm
namespace Mm
open PySem L2
section
variable {X : Cx} {Y : Gam} {W : WX} {e a b c tg iter elt l : Expr} {es rest ifs : List Expr} {ta tb tc te tl : TE} {tt tu : TT} {ma mb mc me ml : ME} {mt mu : MT} {mf : MF} {t : TA} {m : MA} {pos p tpos : Pos} {s : Stmt} {ss : List Stmt} {t1 t2 : TS} {m1 m2 : MS} {wi : TI} {mi : MI} {x : Str}
def D.tyN : D → Option String
  | .non => some "NoneType"
  | .bl _ => some "bool"
  | .int _ => some "int"
  | .str _ => some "str"
  | .lst _ => some "list"
  | .tup _ => some "tuple"
  | _ => none
def fIsi : Sto → List D → Option D
  | _, [d, .ty n] => match d.tyN with
    | some t => (kitB t n).map D.bl
    | none => none
  | _, _ => none
def tysOf : List D → Option (List String)
  | [] => some []
  | .ty n :: ds => (tysOf ds).map (n :: ·)
  | _ => none
def kitL (t : String) : List String → Option Bool
  | [] => some false
  | n :: ns => match kitB t n with
    | some true => some true
    | some false => kitL t ns
    | none => none
def eIsT (me : ME) (m : MA) : ME := fun env S => (me env S).bind fun d S1 => (m env S1).bind fun ds S2 => match d.tyN, tysOf ds with
  | some t, some ns => if szB ds.length then opt ((kitL t ns).map D.bl) S2 else .stuck
  | _, _ => .stuck
def eChain (f g : Sto → D → D → Option D) (ma mb mc : ME) : ME := fun env S => (ma env S).bind fun x S1 => (mb env S1).bind fun y S2 => match f S2 x y with
  | some (.bl true) => (mc env S2).bind fun z S3 => opt (g S3 y z) S3
  | some (.bl false) => .ok (.bl false) S2
  | _ => .stuck
theorem s_chain {op op' : CmpOp} {r r' : R2} {f f' : Sto → D → D → Option D} (hd : OpD Y r f) (hd' : OpD Y r' f') (ho : OpR X (compareOp op) r) (ho' : OpR X (compareOp op') r') (ha : SE X Y W a ta ma) (hb : SE X Y W b tb mb) (hc : SE X Y W c tc mc)
    (hm : lastMarks [op, op'] [b, c] = false := by with_unfolding_all rfl) : SE X Y W (.Compare a [op, op'] [b, c] pos) (tChain r r' ta tb tc) (eChain f f' ma mb mc) := ⟨pe_chain ho ho' ha.pe hb.pe hc.pe hm, fun w0 H0 w H σ env S O Q st p =>
  ha.sim w0 H0 w H σ env S O _ st ((PostX.bind p).imp fun d1 S1 w1 H1 st1 l1 p1 v1 r1 => hb.sim w0 H0 w1 H1 σ env S1 O _ st1 ((PostX.bind p1).imp fun d2 S2 w2 H2 st2 l2 p2 v2 r2 => by
    split at p2
    · rename_i z
      refine hd w2 H2 S2 d1 d2 v1 v2 _ _ st2.ok (r1.mono l2) r2 z fun w3 H3 v G rv => ⟨true, rep_bl rv, ?_⟩
      simp only [if_true]
      have st3 := st2.grow G
      have l3 := G.le st2.ok
      refine hc.sim w0 H0 w3 H3 σ env S2 O _ st3 ((PostX.bind (PostX.mono p2 l3)).imp fun d3 S3 w4 H4 st4 l4 p4 v3 r3 => ?_)
      obtain ⟨d, e, kk⟩ := PostX.opt_ p4 st4
      exact hd' w4 H4 S3 d2 d3 v2 v3 d Q st4.ok ((r2.mono l3).mono l4) r3 e fun w5 H5 v5 G5 r5 => kk w5 H5 (st4.grow G5) (G5.le st4.ok) v5 r5
    · rename_i z
      refine hd w2 H2 S2 d1 d2 v1 v2 _ _ st2.ok (r1.mono l2) r2 z fun w3 H3 v G rv => ⟨false, rep_bl rv, ?_⟩
      simp only [Bool.false_eq_true, if_false]
      exact p2 w3 H3 (st2.grow G) (G.le st2.ok) _ rep_bl'
    · exact False.elim p2))⟩
def fMin2 : Sto → List D → Option D
  | _, [.int i, .int j] => some (.int (if j < i then j else i))
  | _, _ => none
def fMax2 : Sto → List D → Option D
  | _, [.int i, .int j] => some (.int (if j > i then j else i))
  | _, _ => none
theorem cd_max2 {g : Gam} : CallD g (fun xs H Q => ∃ i j, xs = [.int i, .int j] ∧ Q (.int (if j > i then j else i)) H) fMax2 := fun w H S ds vs d Q k r e q => by
  unfold fMax2 at e
  split at e
  · rename_i i j
    cases e
    obtain ⟨v1, v2, e1, r1, r2⟩ := repL_two r
    exact ⟨i, j, by rw [e1, rep_int r1, rep_int r2], q w H _ .refl rep_int'⟩
  · cases e
end
end Mm
namespace Mm
open PySem L2
def Tof (K : PySem.W.Frag) (tf : List (He.Defn × Str)) : List (Addr × Str) := tf.map fun p => ((He.cT K p.1).2, p.2)
theorem law_atT {l : PySem.W.OpenLaw} {w : World} {K : PySem.W.Frag} {k n : Nat} {x : Str} {mg : Str → Option Value} {fa : Addr} {h : Heap} {fd : FuncData} {ca : Str → Addr} {m : MFn} {facl : List He.Fa} {fns : List He.DefD} {ex : PySem.W.Frag → Bool} (tf : List (He.Defn × Str)) (c : He.SaysX facl fns [] (tf.map (·.1)) ex w h K) (KX : K.In h)
    (hb : ∀ (s : Shared) (u : Value), BindsTo s fd ⟨[u], []⟩ [(x, u)]) (hm : ∀ ns : List Int, ns.length ≤ n → (∀ z ∈ ns, Builtin.Int.intBits z ≤ 1048576) → ∃ S, m [.scr ns] [] = .ok (.val (.bl true)) S)
    (hF : ∀ base : Heap, (∀ q ∈ tf, LamX.TabB base mg (He.cT K q.1).1 (He.cT K q.1).2) → FnOk l.prog w K mg base (L2N.CX l.prog w) k fa fd [x] (spOf (GY K ca (Tof K tf)) 1 m)) : LamX.LawAtS l w K (L2N.CX l.prog w) k n x mg fa h := by
  have at_ : ∀ p ∈ tf.map (fun p => He.cT K p.1), ∃ q ∈ tf.map (·.1), He.cT K q = p := fun p hp => by
    obtain ⟨q, hq, e⟩ := List.mem_map.mp hp
    exact ⟨q.1, List.mem_map.mpr ⟨q, hq, rfl⟩, e⟩
  refine ⟨fd, tf.map (fun p => He.cT K p.1), spOf (GY K ca (Tof K tf)) 1 m, fun p hp => ?_, fun p hp => ?_, fun p hp => ?_, hb, fun H a ns hl hbt hT hS => ?_, fun base _ _ hTB => hF base fun q hq => hTB _ (List.mem_map.mpr ⟨q, hq, rfl⟩)⟩
  · obtain ⟨q, hq, e⟩ := at_ p hp
    rw [← e]
    exact c.empty q hq
  · obtain ⟨q, hq, e⟩ := at_ p hp
    rw [← e]
    exact c.out q hq
  · obtain ⟨q, hq, e⟩ := at_ p hp
    rw [← e]
    exact PySem.W.codeHd_of_K KX (c.hd q hq)
  · obtain ⟨S, e⟩ := hm ns hl hbt
    refine law_sp (fun p hp => ?_) hS e
    obtain ⟨q, hq, e⟩ := List.mem_map.mp hp
    rw [← e]
    exact hT _ (List.mem_map.mpr ⟨q, hq, rfl⟩)
end Mm
namespace Gf
theorem xor_self_left (a b : Nat) : a ^^^ (a ^^^ b) = b := by rw [← Nat.xor_assoc, Nat.xor_self, Nat.zero_xor]
theorem xor_cancel_right (a b : Nat) : a ^^^ b ^^^ b = a := by rw [Nat.xor_assoc, Nat.xor_self, Nat.xor_zero]
theorem xor_eq_zero {a b : Nat} (h : a ^^^ b = 0) : a = b := by
  have := congrArg (· ^^^ b) h
  simpa [xor_cancel_right] using this
theorem log2_bit {n j : Nat} (h : n.log2 < j) : n.testBit j = false := by
  by_cases z : n = 0
  · subst z
    simp
  · exact Nat.testBit_lt_two_pow ((Nat.log2_lt z).mp h)
theorem log2_of {n i : Nat} (h : n.testBit i = true) (g : ∀ j, i < j → n.testBit j = false) : n.log2 = i := by
  have z : n ≠ 0 := by
    intro z
    subst z
    simp at h
  have a : ¬ n.log2 < i := fun l => by
    rw [log2_bit l] at h
    cases h
  have b : ¬ i < n.log2 := fun l => by
    have := g _ l
    rw [Nat.testBit_log2 z] at this
    cases this
  omega
theorem log2_ge {n i : Nat} (h : n.testBit i = true) : i ≤ n.log2 := Nat.le_of_not_lt fun l => by
  rw [log2_bit l] at h
  cases h
theorem ne_of_bit {n i : Nat} (h : n.testBit i = true) : n ≠ 0 := fun z => by
  subst z
  simp at h
def app : List Nat → Nat → Nat
  | [], _ => 0
  | r :: rs, x => (if x.testBit 0 then r else 0) ^^^ app rs (x / 2)
theorem app_nil (x : Nat) : app [] x = 0 := rfl
theorem app_cons (r : Nat) (rs : List Nat) (x : Nat) : app (r :: rs) x = (if x.testBit 0 then r else 0) ^^^ app rs (x / 2) := rfl
theorem app_zero : ∀ rs : List Nat, app rs 0 = 0
  | [] => rfl
  | r :: rs => by
    rw [app_cons]
    simp [app_zero rs]
theorem app_xor : ∀ (rs : List Nat) (x y : Nat), app rs (x ^^^ y) = app rs x ^^^ app rs y
  | [], _, _ => by simp [app]
  | r :: rs, x, y => by
    rw [app_cons, app_cons, app_cons, Nat.xor_div_two, app_xor rs, Nat.testBit_xor]
    cases x.testBit 0 <;> cases y.testBit 0 <;> simp <;> apply Nat.eq_of_testBit_eq <;> intro i <;> simp only [Nat.testBit_xor] <;> cases r.testBit i <;> cases (app rs (x / 2)).testBit i <;> cases (app rs (y / 2)).testBit i <;> rfl
theorem app_lt {w : Nat} : ∀ {rs : List Nat} (x : Nat), (∀ r ∈ rs, r < 2 ^ w) → app rs x < 2 ^ w
  | [], _, _ => Nat.two_pow_pos w
  | r :: rs, x, h => by
    rw [app_cons]
    refine Nat.xor_lt_two_pow ?_ (app_lt (x / 2) fun s hs => h s (List.mem_cons_of_mem _ hs))
    split
    · exact h r List.mem_cons_self
    · exact Nat.two_pow_pos w
theorem app_mod : ∀ (rs : List Nat) (x : Nat), app rs (x % 2 ^ rs.length) = app rs x
  | [], x => rfl
  | r :: rs, x => by
    rw [app_cons, app_cons, List.length_cons]
    have e1 : (x % 2 ^ (rs.length + 1)).testBit 0 = x.testBit 0 := by
      rw [Nat.testBit_mod_two_pow]
      simp
    have e2 : x % 2 ^ (rs.length + 1) / 2 = x / 2 % 2 ^ rs.length := Nat.eq_of_testBit_eq fun i => by
      rw [Nat.testBit_div_two, Nat.testBit_mod_two_pow, Nat.testBit_mod_two_pow, Nat.testBit_div_two]
      simp
    rw [e1, e2, app_mod rs]
def plain (w : Nat) : List Nat := (List.range w).map (2 ^ ·)
theorem app_map2 (rs : List Nat) (x : Nat) : app (rs.map (2 * ·)) x = 2 * app rs x := by
  induction rs generalizing x with
  | nil => rfl
  | cons r rs ih =>
    rw [List.map_cons, app_cons, app_cons, ih]
    have e : ∀ a b : Nat, 2 * a ^^^ 2 * b = 2 * (a ^^^ b) := fun a b => by
      have := Nat.shiftLeft_xor_distrib (a := a) (b := b) (i := 1)
      simp only [Nat.shiftLeft_eq, Nat.pow_one] at this
      rw [Nat.mul_comm 2 a, Nat.mul_comm 2 b, Nat.mul_comm 2 (a ^^^ b)]
      exact this.symm
    rw [← e]
    split <;> rfl
theorem plain_succ (w : Nat) : plain (w + 1) = 1 :: (plain w).map (2 * ·) := by
  unfold plain
  rw [List.range_succ_eq_map, List.map_cons, List.map_map, List.map_map]
  congr 1
  apply List.map_congr_left
  intro i _
  show 2 ^ (i + 1) = 2 * 2 ^ i
  rw [Nat.pow_succ, Nat.mul_comm]
theorem tb_two (a i : Nat) : (2 * a).testBit i = (decide (1 ≤ i) && a.testBit (i - 1)) := by
  have e : 2 * a = a <<< 1 := by rw [Nat.shiftLeft_eq]; omega
  rw [e, Nat.testBit_shiftLeft]
theorem app_plain : ∀ (w x : Nat), x < 2 ^ w → app (plain w) x = x
  | 0, x, h => by
    have : x = 0 := by omega
    subst this
    rfl
  | w + 1, x, h => by
    rw [plain_succ, app_cons, app_map2, app_plain w (x / 2) (by rw [Nat.pow_succ] at h; omega)]
    apply Nat.eq_of_testBit_eq
    intro i
    rw [Nat.testBit_xor]
    cases i with
    | zero =>
      rw [tb_two]
      cases x.testBit 0 <;> simp
    | succ i =>
      rw [tb_two]
      have : (x / 2).testBit (i + 1 - 1) = x.testBit (i + 1) := Nat.testBit_div_two x i
      rw [this]
      have o : Nat.testBit 1 (i + 1) = false := by
        have := Nat.testBit_two_pow (n := 0) (m := i + 1)
        simpa using this
      split <;> simp [o]
theorem plain_len (w : Nat) : (plain w).length = w := by simp [plain]
theorem plain_mem {w x : Nat} : x ∈ plain w ↔ ∃ i, i < w ∧ x = 2 ^ i := by
  unfold plain
  simp only [List.mem_map, List.mem_range]
  constructor
  · rintro ⟨i, h, e⟩
    exact ⟨i, h, e.symm⟩
  · rintro ⟨i, h, e⟩
    exact ⟨i, h, e.symm⟩
theorem app_map (f : Nat → Nat) (f0 : f 0 = 0) (fx : ∀ x y, f (x ^^^ y) = f x ^^^ f y) : ∀ (rs : List Nat) (x : Nat), app (rs.map f) x = f (app rs x)
  | [], _ => by simp [app, f0]
  | r :: rs, x => by
    rw [List.map_cons, app_cons, app_cons, fx, app_map f f0 fx rs]
    split
    · rfl
    · rw [f0]
def Sp (B : List Nat) (x : Nat) : Prop := ∃ m, app B m = x
theorem Sp.zero (B : List Nat) : Sp B 0 := ⟨0, app_zero B⟩
theorem Sp.xor {B : List Nat} {x y : Nat} (a : Sp B x) (b : Sp B y) : Sp B (x ^^^ y) := by
  obtain ⟨m, rfl⟩ := a
  obtain ⟨n, rfl⟩ := b
  exact ⟨m ^^^ n, app_xor B m n⟩
theorem Sp.nil {x : Nat} : Sp [] x ↔ x = 0 := ⟨fun ⟨_, h⟩ => h.symm, fun h => ⟨0, h.symm⟩⟩
theorem Sp.cons {a : Nat} {B : List Nat} {x : Nat} : Sp (a :: B) x ↔ Sp B x ∨ Sp B (x ^^^ a) := by
  constructor
  · rintro ⟨m, e⟩
    rw [app_cons] at e
    cases z : m.testBit 0 with
    | false =>
      rw [z] at e
      simp at e
      exact .inl ⟨_, e⟩
    | true =>
      rw [z] at e
      simp at e
      refine .inr ⟨m / 2, ?_⟩
      rw [← e, Nat.xor_comm a, xor_cancel_right]
  · rintro (⟨m, e⟩ | ⟨m, e⟩)
    · refine ⟨2 * m, ?_⟩
      rw [app_cons]
      have : (2 * m).testBit 0 = false := by simp
      rw [this, Nat.mul_div_cancel_left _ (by decide)]
      simpa using e
    · refine ⟨2 * m + 1, ?_⟩
      rw [app_cons]
      have : (2 * m + 1).testBit 0 = true := by simp
      have h2 : (2 * m + 1) / 2 = m := by omega
      rw [this, h2, e, if_pos rfl, Nat.xor_comm x, xor_self_left]
theorem Sp.head (a : Nat) (B : List Nat) : Sp (a :: B) a := Sp.cons.mpr (.inr (by rw [Nat.xor_self]; exact .zero B))
theorem Sp.tail {a : Nat} {B : List Nat} {x : Nat} (h : Sp B x) : Sp (a :: B) x := Sp.cons.mpr (.inl h)
theorem Sp.mem {a : Nat} : ∀ {B : List Nat}, a ∈ B → Sp B a
  | b :: B, h => by
    rcases List.mem_cons.mp h with e | h
    · rw [e]
      exact .head b B
    · exact (Sp.mem h).tail
theorem Sp.sub {C : List Nat} : ∀ {B : List Nat} {x : Nat}, (∀ b ∈ B, Sp C b) → Sp B x → Sp C x
  | [], x, _, h => by
    rw [Sp.nil.mp h]
    exact .zero C
  | b :: B, x, g, h => by
    rcases Sp.cons.mp h with h | h
    · exact Sp.sub (fun c hc => g c (List.mem_cons_of_mem _ hc)) h
    · have := (Sp.sub (fun c hc => g c (List.mem_cons_of_mem _ hc)) h).xor (g b List.mem_cons_self)
      rwa [xor_cancel_right] at this
theorem Sp.mono {B C : List Nat} {x : Nat} (s : ∀ b ∈ B, b ∈ C) (h : Sp B x) : Sp C x := h.sub fun b hb => .mem (s b hb)
theorem Sp.perm {B C : List Nat} (p : B.Perm C) {x : Nat} : Sp B x ↔ Sp C x := ⟨.mono fun b hb => p.mem_iff.mp hb, .mono fun b hb => p.mem_iff.mpr hb⟩
theorem Sp.lt {w : Nat} {B : List Nat} {x : Nat} (h : ∀ b ∈ B, b < 2 ^ w) (s : Sp B x) : x < 2 ^ w := by
  obtain ⟨m, rfl⟩ := s
  exact app_lt m h
theorem Sp.bit {i : Nat} : ∀ {B : List Nat} {x : Nat}, (∀ c ∈ B, c.testBit i = false) → Sp B x → x.testBit i = false
  | [], x, _, h => by
    rw [Sp.nil.mp h]
    simp
  | b :: B, x, g, h => by
    rcases Sp.cons.mp h with h | h
    · exact Sp.bit (fun c hc => g c (List.mem_cons_of_mem _ hc)) h
    · have := Sp.bit (fun c hc => g c (List.mem_cons_of_mem _ hc)) h
      rw [Nat.testBit_xor, g b List.mem_cons_self] at this
      simpa using this
def RR (B : List Nat) : Prop := (∀ b ∈ B, b ≠ 0) ∧ B.Pairwise fun a b => a.testBit b.log2 = false ∧ b.testBit a.log2 = false
theorem RR.nil : RR [] := ⟨fun _ h => by simp at h, .nil⟩
theorem RR.cons {b : Nat} {B : List Nat} : RR (b :: B) ↔ b ≠ 0 ∧ (∀ c ∈ B, b.testBit c.log2 = false ∧ c.testBit b.log2 = false) ∧ RR B := by
  unfold RR
  rw [List.pairwise_cons]
  constructor
  · rintro ⟨h1, h2, h3⟩
    exact ⟨h1 b List.mem_cons_self, h2, fun c hc => h1 c (List.mem_cons_of_mem _ hc), h3⟩
  · rintro ⟨h1, h2, h3, h4⟩
    refine ⟨fun c hc => ?_, h2, h4⟩
    rcases List.mem_cons.mp hc with e | hc
    · rw [e]
      exact h1
    · exact h3 c hc
theorem RR.nodup {B : List Nat} (h : RR B) : B.Nodup := by
  have h1 := h.1
  have h2 := h.2
  refine List.Pairwise.imp_of_mem (fun {a b} ha _ z e => ?_) h2
  rw [← e, Nat.testBit_log2 (h1 a ha)] at z
  cases z.1
theorem RR.top {B : List Nat} (h : RR B) {a b : Nat} (ha : a ∈ B) (hb : b ∈ B) : a.testBit b.log2 = decide (a = b) := by
  by_cases e : a = b
  · subst e
    simp [Nat.testBit_log2 (h.1 a ha)]
  · rw [decide_eq_false e]
    revert ha hb
    induction B with
    | nil => intro ha; simp at ha
    | cons c B ih =>
      intro ha hb
      obtain ⟨_, h2, h3⟩ := RR.cons.mp h
      rcases List.mem_cons.mp ha with ea | ha <;> rcases List.mem_cons.mp hb with eb | hb
      · exact absurd (ea.trans eb.symm) e
      · rw [ea]
        exact (h2 b hb).1
      · rw [eb]
        exact (h2 a ha).2
      · exact ih h3 ha hb
def rst (l b : Nat) : Nat := if l.testBit b.log2 then l ^^^ b else l
def red (x : Nat) (B : List Nat) : Nat := B.foldl rst x
theorem red_cons (x b : Nat) (B : List Nat) : red x (b :: B) = red (rst x b) B := rfl
theorem red_keep {i : Nat} : ∀ {B : List Nat} (x : Nat), (∀ c ∈ B, c.testBit i = false) → (red x B).testBit i = x.testBit i
  | [], _, _ => rfl
  | b :: B, x, h => by
    rw [red_cons, red_keep _ fun c hc => h c (List.mem_cons_of_mem _ hc)]
    unfold rst
    split
    · rw [Nat.testBit_xor, h b List.mem_cons_self]
      simp
    · rfl
theorem red_top : ∀ {B : List Nat} (x : Nat), RR B → ∀ b ∈ B, (red x B).testBit b.log2 = false
  | b :: B, x, h, c, hc => by
    obtain ⟨h1, h2, h3⟩ := RR.cons.mp h
    rw [red_cons]
    rcases List.mem_cons.mp hc with e | hc
    · rw [e, red_keep _ fun d hd => (h2 d hd).2]
      unfold rst
      split
      · rename_i z
        rw [Nat.testBit_xor, z, Nat.testBit_log2 h1]
        rfl
      · rename_i z
        simpa using z
    · exact red_top _ h3 c hc
theorem red_sp : ∀ (B : List Nat) (x : Nat), Sp B (x ^^^ red x B)
  | [], x => by
    show Sp [] (x ^^^ x)
    rw [Nat.xor_self]
    exact .zero _
  | b :: B, x => by
    rw [red_cons]
    have h := (red_sp B (rst x b)).tail (a := b)
    by_cases z : x.testBit b.log2 = true
    · have e : rst x b = x ^^^ b := if_pos z
      rw [e] at h ⊢
      have := h.xor (Sp.head b B)
      have q : x ^^^ b ^^^ red (x ^^^ b) B ^^^ b = x ^^^ red (x ^^^ b) B := by
        rw [Nat.xor_assoc x b, Nat.xor_comm b, Nat.xor_assoc, xor_cancel_right]
      rwa [q] at this
    · have e : rst x b = x := if_neg z
      rw [e] at h ⊢
      exact h
theorem RR.indep : ∀ {B : List Nat} {y : Nat}, RR B → Sp B y → (∀ b ∈ B, y.testBit b.log2 = false) → y = 0
  | [], y, _, h, _ => Sp.nil.mp h
  | b :: B, y, h, s, t => by
    obtain ⟨h1, h2, h3⟩ := RR.cons.mp h
    rcases Sp.cons.mp s with s | s
    · exact RR.indep h3 s fun c hc => t c (List.mem_cons_of_mem _ hc)
    · have z := Sp.bit (i := b.log2) (fun c hc => (h2 c hc).2) s
      rw [Nat.testBit_xor, t b List.mem_cons_self, Nat.testBit_log2 h1] at z
      cases z
theorem red_zero {B : List Nat} (h : RR B) {x : Nat} : red x B = 0 ↔ Sp B x := by
  constructor
  · intro e
    have := red_sp B x
    rwa [e, Nat.xor_zero] at this
  · intro s
    have q := s.xor (red_sp B x)
    rw [xor_self_left] at q
    exact h.indep q (red_top x h)
theorem red_lt {w : Nat} {B : List Nat} {x : Nat} (h : ∀ b ∈ B, b < 2 ^ w) (hx : x < 2 ^ w) : red x B < 2 ^ w := by
  have := Nat.xor_lt_two_pow hx ((red_sp B x).lt h)
  rwa [xor_self_left] at this
theorem log2_xor {a b : Nat} (ha : a ≠ 0) (h : b.log2 < a.log2) : (a ^^^ b).log2 = a.log2 := log2_of (by rw [Nat.testBit_xor, Nat.testBit_log2 ha, log2_bit h]; rfl) fun j hj => by
  rw [Nat.testBit_xor, log2_bit hj, log2_bit (Nat.lt_trans h hj)]
  rfl
theorem RR.spTop : ∀ {B : List Nat} {s : Nat}, RR B → Sp B s → s ≠ 0 → ∃ b ∈ B, s.log2 = b.log2
  | [], s, _, h, n => absurd (Sp.nil.mp h) n
  | b :: B, s, h, sp, n => by
    obtain ⟨h1, h2, h3⟩ := RR.cons.mp h
    rcases Sp.cons.mp sp with q | q
    · obtain ⟨c, hc, e⟩ := RR.spTop h3 q n
      exact ⟨c, List.mem_cons_of_mem _ hc, e⟩
    · by_cases z : s ^^^ b = 0
      · rw [xor_eq_zero z]
        exact ⟨b, List.mem_cons_self, rfl⟩
      · obtain ⟨c, hc, e⟩ := RR.spTop h3 q z
        have es : s = b ^^^ (s ^^^ b) := by rw [Nat.xor_comm s, xor_self_left]
        have ne : b.log2 ≠ c.log2 := fun q => by
          have := (h2 c hc).1
          rw [← q, Nat.testBit_log2 h1] at this
          cases this
        rcases Nat.lt_or_gt_of_ne ne with l | l
        · refine ⟨c, List.mem_cons_of_mem _ hc, ?_⟩
          rw [es, Nat.xor_comm, log2_xor z (by omega), e]
        · refine ⟨b, List.mem_cons_self, ?_⟩
          have := log2_xor h1 (b := s ^^^ b) (by omega)
          rw [← es] at this
          exact this
theorem RR.uniq {B C : List Nat} (hB : RR B) (hC : RR C) (h : ∀ y, Sp B y ↔ Sp C y) : B.Perm C := by
  have half : ∀ {B C : List Nat}, RR B → RR C → (∀ y, Sp B y ↔ Sp C y) → ∀ a, a ∈ B → a ∈ C := fun {B C} hB hC h a ha => by
    obtain ⟨c, hc, e⟩ := hC.spTop ((h a).mp (.mem ha)) (hB.1 a ha)
    have q : a ^^^ c = 0 := hB.indep ((Sp.mem ha).xor ((h c).mpr (.mem hc))) fun b hb => by
      rw [Nat.testBit_xor, hB.top ha hb]
      obtain ⟨d, hd, e2⟩ := hC.spTop ((h b).mp (.mem hb)) (hB.1 b hb)
      rw [e2, hC.top hc hd]
      by_cases z : a = b
      · have : c = d := by
          subst z
          have := hC.top hc hd
          rw [← e2, e, Nat.testBit_log2 (hC.1 c hc)] at this
          exact of_decide_eq_true this.symm
        simp [z, this]
      · have : c ≠ d := fun y => by
          subst y
          have t := hB.top ha hb
          rw [e2, ← e, Nat.testBit_log2 (hB.1 a ha)] at t
          exact z (of_decide_eq_true t.symm)
        simp [z, this]
    rw [xor_eq_zero q]
    exact hc
  exact (List.perm_ext_iff_of_nodup hB.nodup hC.nodup).mpr fun a => ⟨half hB hC h a, half hC hB (fun y => (h y).symm) a⟩
def cst (l o : Nat) : Nat := if o.testBit l.log2 then o ^^^ l else o
def bst (F : List Nat) (x : Nat) : List Nat := if red x F = 0 then F else F.map (cst (red x F)) ++ [red x F]
def bas (xs : List Nat) : List Nat := xs.foldl bst []
theorem cst_log2 {l o : Nat} (hl : l ≠ 0) (ho : o ≠ 0) (h : l.testBit o.log2 = false) : (cst l o).log2 = o.log2 ∧ cst l o ≠ 0 := by
  unfold cst
  split
  · rename_i z
    have a := log2_ge z
    have b : l.log2 ≠ o.log2 := fun e => by
      rw [← e, Nat.testBit_log2 hl] at h
      cases h
    have c := log2_xor ho (b := l) (by omega)
    refine ⟨c, ne_of_bit (i := o.log2) ?_⟩
    rw [Nat.testBit_xor, Nat.testBit_log2 ho, h]
    rfl
  · exact ⟨rfl, ho⟩
theorem cst_top {l o : Nat} (hl : l ≠ 0) : (cst l o).testBit l.log2 = false := by
  unfold cst
  split
  · rename_i z
    rw [Nat.testBit_xor, z, Nat.testBit_log2 hl]
    rfl
  · rename_i z
    simpa using z
theorem RR.cst {F : List Nat} {l : Nat} (h : RR F) (hl : l ≠ 0) (ht : ∀ b ∈ F, l.testBit b.log2 = false) : RR (F.map (cst l) ++ [l]) := by
  refine ⟨fun b hb => ?_, ?_⟩
  · rcases List.mem_append.mp hb with hb | hb
    · obtain ⟨o, ho, rfl⟩ := List.mem_map.mp hb
      exact (cst_log2 hl (h.1 o ho) (ht o ho)).2
    · simp at hb
      rw [hb]
      exact hl
  · refine List.pairwise_append.mpr ⟨List.pairwise_map.mpr (List.Pairwise.imp_of_mem (fun {a b} ha hb z => ?_) h.2), List.pairwise_singleton _ _, fun a ha b hb => ?_⟩
    · rw [(cst_log2 hl (h.1 a ha) (ht a ha)).1, (cst_log2 hl (h.1 b hb) (ht b hb)).1]
      have q : ∀ u v : Nat, u.testBit v.log2 = false → l.testBit v.log2 = false → (Gf.cst l u).testBit v.log2 = false := fun u v h1 h2 => by
        unfold Gf.cst
        split
        · rw [Nat.testBit_xor, h1, h2]
          rfl
        · exact h1
      exact ⟨q a b z.1 (ht b hb), q b a z.2 (ht a ha)⟩
    · obtain ⟨o, ho, rfl⟩ := List.mem_map.mp ha
      simp at hb
      rw [hb, (cst_log2 hl (h.1 o ho) (ht o ho)).1]
      exact ⟨cst_top hl, ht o ho⟩
theorem sp_cst {F : List Nat} {l y : Nat} : Sp (F.map (cst l) ++ [l]) y ↔ Sp (l :: F) y := by
  constructor
  · refine .sub fun b hb => ?_
    rcases List.mem_append.mp hb with hb | hb
    · obtain ⟨o, ho, rfl⟩ := List.mem_map.mp hb
      unfold cst
      split
      · exact (Sp.mem ho).tail.xor (.head l F)
      · exact (Sp.mem ho).tail
    · simp at hb
      rw [hb]
      exact .head l F
  · refine .sub fun b hb => ?_
    have L : Sp (F.map (cst l) ++ [l]) l := .mem (by simp)
    rcases List.mem_cons.mp hb with e | hb
    · rw [e]
      exact L
    · have q : Sp (F.map (cst l) ++ [l]) (cst l b) := .mem (List.mem_append_left _ (List.mem_map_of_mem hb))
      unfold cst at q
      split at q
      · have := q.xor L
        rwa [xor_cancel_right] at this
      · exact q
theorem RR.bst {F : List Nat} (h : RR F) (x : Nat) : RR (bst F x) := by
  unfold Gf.bst
  split
  · exact h
  · rename_i z
    exact h.cst z (red_top x h)
theorem sp_bst {F : List Nat} (h : RR F) {x y : Nat} : Sp (bst F x) y ↔ Sp (x :: F) y := by
  unfold bst
  split
  · rename_i z
    refine ⟨.tail, .sub fun b hb => ?_⟩
    rcases List.mem_cons.mp hb with e | hb
    · rw [e]
      exact (red_zero h).mp z
    · exact .mem hb
  · rw [sp_cst]
    have q : Sp F (x ^^^ red x F) := red_sp F x
    constructor
    · refine .sub fun b hb => ?_
      rcases List.mem_cons.mp hb with e | hb
      · rw [e]
        have := q.tail (a := x) |>.xor (.head x F)
        have e2 : x ^^^ red x F ^^^ x = red x F := by rw [Nat.xor_comm x, xor_cancel_right]
        rwa [e2] at this
      · exact (Sp.mem hb).tail
    · refine .sub fun b hb => ?_
      rcases List.mem_cons.mp hb with e | hb
      · rw [e]
        have := q.tail (a := red x F) |>.xor (.head _ F)
        rwa [xor_cancel_right] at this
      · exact (Sp.mem hb).tail
theorem bas_go : ∀ (xs F : List Nat), RR F → RR (xs.foldl bst F) ∧ ∀ y, Sp (xs.foldl bst F) y ↔ Sp (xs ++ F) y
  | [], F, h => ⟨h, fun _ => .rfl⟩
  | x :: xs, F, h => by
    obtain ⟨h1, h2⟩ := bas_go xs (bst F x) (h.bst x)
    refine ⟨h1, fun y => ?_⟩
    rw [List.foldl_cons, h2]
    have up : ∀ b ∈ xs ++ bst F x, Sp (x :: xs ++ F) b := fun b hb => by
      rcases List.mem_append.mp hb with hb | hb
      · exact .mem (by simp [hb])
      · exact ((sp_bst h).mp (.mem hb)).mono fun c hc => by
          rcases List.mem_cons.mp hc with e | hc
          · simp [e]
          · simp [hc]
    have dn : ∀ b ∈ x :: xs ++ F, Sp (xs ++ bst F x) b := fun b hb => by
      have go : Sp (bst F x) b → Sp (xs ++ bst F x) b := .mono fun c hc => List.mem_append_right _ hc
      rcases List.mem_append.mp hb with hb | hb
      · rcases List.mem_cons.mp hb with e | hb
        · rw [e]
          exact .mono (fun c hc => List.mem_append_right _ hc) ((sp_bst h).mpr (.head x F))
        · exact .mem (List.mem_append_left _ hb)
      · exact go ((sp_bst h).mpr (Sp.mem hb).tail)
    exact ⟨.sub up, .sub dn⟩
theorem bas_rr (xs : List Nat) : RR (bas xs) := (bas_go xs [] .nil).1
theorem bas_sp (xs : List Nat) (y : Nat) : Sp (bas xs) y ↔ Sp xs y := by
  have := (bas_go xs [] .nil).2 y
  rwa [List.append_nil] at this
def All (w : Nat) (B : List Nat) : Prop := ∀ x, x < 2 ^ w → Sp B x
theorem plain_rr (w : Nat) : RR (plain w) := by
  refine ⟨fun b hb => ?_, ?_⟩
  · obtain ⟨i, _, e⟩ := plain_mem.mp hb
    rw [e]
    exact Nat.ne_of_gt (Nat.two_pow_pos i)
  · unfold plain
    refine List.pairwise_map.mpr (List.Pairwise.imp (fun {a b} h => ?_) (List.pairwise_lt_range (n := w)))
    rw [Nat.log2_two_pow, Nat.log2_two_pow, Nat.testBit_two_pow, Nat.testBit_two_pow]
    constructor <;> (apply decide_eq_false; omega)
theorem plain_all (w : Nat) : All w (plain w) := fun x h => ⟨x, app_plain w x h⟩
theorem plain_lt {w : Nat} : ∀ b ∈ plain w, b < 2 ^ w := fun b hb => by
  obtain ⟨i, h, e⟩ := plain_mem.mp hb
  rw [e]
  exact Nat.pow_lt_pow_right (by decide) h
theorem RR.full {w : Nat} {B : List Nat} (h : RR B) (lt : ∀ b ∈ B, b < 2 ^ w) (a : All w B) : B.length = w := by
  have := (h.uniq (plain_rr w) fun y => ⟨fun s => plain_all w y (s.lt lt), fun s => a y (s.lt plain_lt)⟩).length_eq
  rw [this, plain_len]
theorem RR.tops {B : List Nat} (h : RR B) : (B.map Nat.log2).Nodup := by
  refine List.pairwise_map.mpr (List.Pairwise.imp_of_mem (fun {a b} ha hb z e => ?_) h.2)
  rw [← e, Nat.testBit_log2 (h.1 a ha)] at z
  cases z.1
theorem RR.len_le {w : Nat} {B : List Nat} (h : RR B) (lt : ∀ b ∈ B, b < 2 ^ w) : B.length ≤ w := by
  have := h.tops.length_le_of_subset (l₂ := List.range w) fun x hx => by
    obtain ⟨b, hb, rfl⟩ := List.mem_map.mp hx
    simpa using (Nat.log2_lt (h.1 b hb)).mpr (lt b hb)
  simpa using this
end Gf
namespace Mm
open PySem L2
section
variable {α β : Type} {env : Envr} {S S1 S2 : Sto} {i j : Nat} {d d1 d2 : D} {a b : ME} {c t u : MT} {s s1 s2 : MS} {m : MA}
@[simp] theorem bind_ok' (x : α) (S : Sto) (f : α → Sto → R β) : (R.ok x S).bind f = f x S := rfl
@[simp] theorem bind_exc' (c : Str) (p : Option D) (S : Sto) (f : α → Sto → R β) : (R.exc c p S : R α).bind f = .exc c p S := rfl
@[simp] theorem out_ok' (x : α) (S : Sto) (env : Envr) (f : α → Sto → Out) : (R.ok x S).out env f = f x S := rfl
@[simp] theorem out_exc' (c : Str) (p : Option D) (S : Sto) (env : Envr) (f : α → Sto → Out) : (R.exc c p S : R α).out env f = .exc c p env S := rfl
@[simp] theorem opt_some' (x : α) (S : Sto) : opt (some x) S = .ok x S := rfl
@[simp] theorem mFrz_eq (mf : MF) (env : Envr) (S : Sto) : mFrz mf env S = (mf env S).bind fun c S1 => .ok c.d S1 := rfl
@[simp] theorem d_lst (xs : List D) : (Cell.lst xs).d = .lst xs := rfl
@[simp] theorem d_ins (c : Str) (xs : List (Str × D)) : (Cell.ins c xs).d = .ins c xs := rfl
@[simp] theorem r_val (d : D) : (Ret.val d).d = d := rfl
@[simp] theorem r_own (d : Cell) : (Ret.own d).d = d.d := rfl
@[simp] theorem eV_eq (i : Nat) (env : Envr) (S : Sto) : eV i env S = (match env[i]? with
  | some (.v d) => .ok d S
  | _ => .stuck) := rfl
@[simp] theorem eC_eq (d : D) (env : Envr) (S : Sto) : eC d env S = .ok d S := rfl
@[simp] theorem eOp_eq (f : Sto → D → D → Option D) (ma mb : ME) (env : Envr) (S : Sto) : eOp f ma mb env S = ((ma env S).bind fun d1 S1 => (mb env S1).bind fun d2 S2 => opt (f S2 d1 d2) S2) := rfl
@[simp] theorem eUn_eq (f : Sto → D → Option D) (ma : ME) (env : Envr) (S : Sto) : eUn f ma env S = ((ma env S).bind fun d1 S1 => opt (f S1 d1) S1) := rfl
@[simp] theorem fNeg_eq (S : Sto) (i : Int) : fNeg S (.int i) = some (.int (-i)) := rfl
@[simp] theorem cB_eq (me : ME) (env : Envr) (S : Sto) : cB me env S = ((me env S).bind fun d S1 => match d with
  | .bl k => .ok k S1
  | _ => .stuck) := rfl
@[simp] theorem cAnd_eq (a b : MT) (env : Envr) (S : Sto) : cAnd a b env S = ((a env S).bind fun k S1 => if k = true then b env S1 else .ok false S1) := rfl
@[simp] theorem cOr_eq (a b : MT) (env : Envr) (S : Sto) : cOr a b env S = ((a env S).bind fun k S1 => if k = true then .ok true S1 else b env S1) := rfl
@[simp] theorem cNot_eq (a : MT) (env : Envr) (S : Sto) : cNot a env S = ((a env S).bind fun k S1 => .ok (!k) S1) := rfl
@[simp] theorem cYes_eq (env : Envr) (S : Sto) : cYes env S = .ok true S := rfl
@[simp] theorem eIf_eq (t : MT) (a b : ME) (env : Envr) (S : Sto) : eIf t a b env S = ((t env S).bind fun k S1 => if k = true then a env S1 else b env S1) := rfl
@[simp] theorem eAnd_eq (a b : ME) (env : Envr) (S : Sto) : eAnd a b env S = ((a env S).bind fun d S1 => match d with
  | .bl true => b env S1
  | .bl false => .ok (.bl false) S1
  | _ => .stuck) := rfl
@[simp] theorem eOr_eq (a b : ME) (env : Envr) (S : Sto) : eOr a b env S = ((a env S).bind fun d S1 => match d with
  | .bl true => .ok (.bl true) S1
  | .bl false => b env S1
  | _ => .stuck) := rfl
@[simp] theorem aNil_eq (env : Envr) (S : Sto) : aNil env S = .ok [] S := rfl
@[simp] theorem aCons_eq (ma : ME) (mr : MA) (env : Envr) (S : Sto) : aCons ma mr env S = ((ma env S).bind fun d S1 => (mr env S1).bind fun ds S2 => .ok (d :: ds) S2) := rfl
@[simp] theorem eTup_eq (m : MA) (env : Envr) (S : Sto) : eTup m env S = ((m env S).bind fun ds S1 => if szB ds.length then .ok (.tup ds) S1 else .stuck) := rfl
@[simp] theorem fLst_eq (m : MA) (env : Envr) (S : Sto) : fLst m env S = ((m env S).bind fun ds S1 => if szB ds.length then .ok (.lst ds) S1 else .stuck) := rfl
@[simp] theorem eCall_eq (f : MFn) (dd : List D) (m : MA) (env : Envr) (S : Sto) : eCall f dd m env S = ((m env S).bind fun ds S1 => (f (ds ++ dd) S1).bind fun r S2 => .ok r.d S2) := rfl
@[simp] theorem fCall_eq (f : MFn) (dd : List D) (m : MA) (env : Envr) (S : Sto) : fCall f dd m env S = ((m env S).bind fun ds S1 => (f (ds ++ dd) S1).bind rOwn) := rfl
@[simp] theorem rOwn_own (c : Cell) (S : Sto) : rOwn (.own c) S = .ok c S := rfl
@[simp] theorem sNil_eq (env : Envr) (S : Sto) : sNil env S = .nx env S := rfl
@[simp] theorem sSeq_eq (a b : MS) (env : Envr) (S : Sto) : sSeq a b env S = (match a env S with
  | .nx e S1 => b e S1
  | o => o) := rfl
@[simp] theorem sExpr_eq (me : ME) (env : Envr) (S : Sto) : sExpr me env S = (me env S).out env fun _ S1 => .nx env S1 := rfl
@[simp] theorem sRet_eq (me : ME) (env : Envr) (S : Sto) : sRet me env S = (me env S).out env fun d S1 => .rt (.val d) S1 := rfl
@[simp] theorem sRetF_eq (mf : MF) (env : Envr) (S : Sto) : sRetF mf env S = (mf env S).out env fun c S1 => .rt (.own c) S1 := rfl
@[simp] theorem sRetO_eq (i : Nat) (env : Envr) (S : Sto) : sRetO i env S = (match env[i]? with
  | some (.o c) => .rt (.own c) S
  | some (.v d) => .rt (.val d) S
  | _ => .stuck) := rfl
@[simp] theorem sIf_eq (c : MT) (a b : MS) (env : Envr) (S : Sto) : sIf c a b env S = (c env S).out env fun k S1 => if k = true then a env S1 else b env S1 := rfl
@[simp] theorem gN_eq (i : Nat) (d : D) (env : Envr) : gN i d env = some (env.set i (.v d)) := rfl
@[simp] theorem gN0_eq (env : Envr) : gN0 [] env = some env := rfl
@[simp] theorem gNC_eq (a : MG) (b : MGs) (d : D) (ds : List D) (env : Envr) : gNC a b (d :: ds) env = (a d env).bind fun e => b ds e := rfl
@[simp] theorem gT_eq (b : MGs) (ds : List D) (env : Envr) : gT b (.tup ds) env = b ds env := rfl
@[simp] theorem sAsg_eq (me : ME) (mg : MG) (env : Envr) (S : Sto) : sAsg me mg env S = (me env S).out env fun d S1 => match mg d env with
  | some e => .nx e S1
  | none => .stuck := rfl
@[simp] theorem sOwn_eq (i : Nat) (mf : MF) (env : Envr) (S : Sto) : sOwn i mf env S = (mf env S).out env fun c S1 => if i < env.length then .nx (env.set i (.o c)) S1 else .stuck := rfl
@[simp] theorem sPar_eq (i j : Nat) (m : MA) (env : Envr) (S : Sto) : sPar i j m env S = (m env S).out env fun ds S1 => match ds with
  | [d1, d2] => .nx ((env.set i (.v d1)).set j (.v d2)) S1
  | _ => .stuck := rfl
@[simp] theorem sFor_eq (mi : MI) (g : MG) (b : MS) (env : Envr) (S : Sto) : sFor mi g b env S = (mi env S).out env fun ds S1 => forL g b ds env S1 := rfl
@[simp] theorem fLc_eq (mi : MI) (g : MG) (tt : MT) (te : ME) (vs : List Nat) (env : Envr) (S : Sto) : fLc mi g tt te vs env S = (mi env S).bind fun ds S1 => (lcR g tt te (wipeE env vs) ds S1).bind fin := rfl
@[simp] theorem fin_eq (ys : List D) (S : Sto) : fin ys S = if szB ys.length then .ok (.lst ys) S else .stuck := rfl
@[simp] theorem startE_eq (n : Nat) (ds : List D) : startE n ds = ds.map Sl.v ++ List.replicate (n - ds.length) .no := rfl
@[simp] theorem mFn_eq (n : Nat) (m : MS) (ds : List D) (S : Sto) : mFn n m ds S = (match m (startE n ds) S with
  | .nx _ S1 => .ok (.val .non) S1
  | .rt r S1 => .ok r S1
  | .exc c p _ S1 => .exc c p S1
  | _ => .stuck) := rfl
@[simp] theorem itL_eq (me : ME) (env : Envr) (S : Sto) : itL me env S = (me env S).bind fun d S1 => match d with
  | .lst ds => .ok ds S1
  | .tup ds => .ok ds S1
  | _ => .stuck := rfl
@[simp] theorem itR1_eq (m : MA) (env : Envr) (S : Sto) : itR1 m env S = (m env S).bind fun ds S1 => match ds with
  | [.int j] => if rgB j then .ok (rngD 0 j.toNat) S1 else .stuck
  | _ => .stuck := rfl
@[simp] theorem itES_eq (m : MA) (env : Envr) (S : Sto) : itES m env S = (m env S).bind fun ds S1 => match ds with
  | [.lst ds] => .ok (enumD 0 ds) S1
  | [.tup ds] => .ok (enumD 0 ds) S1
  | _ => .stuck := rfl
@[simp] theorem eCB_eq (f : Sto → List D → Option D) (m : MA) (env : Envr) (S : Sto) : eCB f m env S = (m env S).bind fun ds S1 => opt (f S1 ds) S1 := rfl
@[simp] theorem fCB_eq (f : Sto → List D → Option Cell) (m : MA) (env : Envr) (S : Sto) : fCB f m env S = (m env S).bind fun ds S1 => opt (f S1 ds) S1 := rfl
@[simp] theorem fLen_lst (S : Sto) (ds : List D) : fLen S [.lst ds] = some (.int ds.length) := rfl
@[simp] theorem fLen_tup (S : Sto) (ds : List D) : fLen S [.tup ds] = some (.int ds.length) := rfl
@[simp] theorem fListOf_lst (S : Sto) (ds : List D) : fListOf S [.lst ds] = some (.lst ds) := rfl
@[simp] theorem fListOf_tup (S : Sto) (ds : List D) : fListOf S [.tup ds] = some (.lst ds) := rfl
@[simp] theorem fTupOf_lst (S : Sto) (ds : List D) : fTupOf S [.lst ds] = some (.tup ds) := rfl
@[simp] theorem fTupOf_tup (S : Sto) (ds : List D) : fTupOf S [.tup ds] = some (.tup ds) := rfl
theorem fSorted_lst (S : Sto) (ds : List D) : fSorted S [.lst ds] = (intsOf ds).map fun ns => .lst ((isrt ns).map D.int) := rfl
@[simp] theorem fInt_int (S : Sto) (i : Int) : fInt S [.int i] = some (.int i) := rfl
@[simp] theorem fInt_bl (S : Sto) (b : Bool) : fInt S [.bl b] = some (.int (if b then 1 else 0)) := rfl
@[simp] theorem eBits_eq (me : ME) (env : Envr) (S : Sto) : eBits me env S = (me env S).bind fun d S1 => match d with
  | .int i => .ok (.int (Builtin.Int.intBits i : Nat)) S1
  | _ => .stuck := rfl
@[simp] theorem iAdd_eq (S : Sto) (i j : Int) : iAdd S (.int i) (.int j) = some (.int (i + j)) := rfl
@[simp] theorem iSub_eq (S : Sto) (i j : Int) : iSub S (.int i) (.int j) = some (.int (i - j)) := rfl
@[simp] theorem iMul_eq (S : Sto) (i j : Int) : iMul S (.int i) (.int j) = if mulB i j then some (.int (i * j)) else none := rfl
@[simp] theorem iDiv_eq (S : Sto) (i j : Int) : iDiv S (.int i) (.int j) = if divB i j then some (.int (i.fdiv j)) else none := rfl
@[simp] theorem iMod_eq (S : Sto) (i j : Int) : iMod S (.int i) (.int j) = if decide (j ≠ 0) then some (.int (i.fmod j)) else none := rfl
@[simp] theorem iPow_eq (S : Sto) (i j : Int) : iPow S (.int i) (.int j) = if powB i j then some (.int (i ^ j.toNat)) else none := rfl
@[simp] theorem iShl_eq (S : Sto) (i j : Int) : iShl S (.int i) (.int j) = if powB i j then some (.int (i * 2 ^ j.toNat)) else none := rfl
@[simp] theorem iShr_eq (S : Sto) (i j : Int) : iShr S (.int i) (.int j) = if decide (0 ≤ j) then some (.int (i / 2 ^ j.toNat)) else none := rfl
@[simp] theorem iAnd_eq (S : Sto) (i j : Int) : iAnd S (.int i) (.int j) = some (.int (Builtin.bitAnd i j)) := rfl
@[simp] theorem iXor_eq (S : Sto) (i j : Int) : iXor S (.int i) (.int j) = some (.int (Builtin.bitXor i j)) := rfl
@[simp] theorem iLt_eq (S : Sto) (i j : Int) : iLt S (.int i) (.int j) = some (.bl (decide (i < j))) := rfl
@[simp] theorem iLe_eq (S : Sto) (i j : Int) : iLe S (.int i) (.int j) = some (.bl (decide (i ≤ j))) := rfl
@[simp] theorem iGt_eq (S : Sto) (i j : Int) : iGt S (.int i) (.int j) = some (.bl (decide (j < i))) := rfl
@[simp] theorem iGe_eq (S : Sto) (i j : Int) : iGe S (.int i) (.int j) = some (.bl (decide (j ≤ i))) := rfl
@[simp] theorem dAdd_int (S : Sto) (i j : Int) : dAdd S (.int i) (.int j) = some (.int (i + j)) := rfl
@[simp] theorem dAdd_lst (S : Sto) (xs ys : List D) : dAdd S (.lst xs) (.lst ys) = if szB (xs.length + ys.length) then some (.lst (xs ++ ys)) else none := by
  show (none : Option D).or (fCatD S (.lst xs) (.lst ys)) = _
  show (none : Option D).or ((if szB (xs.length + ys.length) then some (Cell.lst (xs ++ ys)) else none).map Cell.d) = _
  cases szB (xs.length + ys.length) <;> rfl
@[simp] theorem fCat_lst (S : Sto) (xs ys : List D) : fCat S (.lst xs) (.lst ys) = if szB (xs.length + ys.length) then some (.lst (xs ++ ys)) else none := rfl
@[simp] theorem fIx_lst (S : Sto) (xs : List D) (i : Int) : fIx S (.lst xs) (.int i) = atI xs i := rfl
@[simp] theorem fIx_tup (S : Sto) (xs : List D) (i : Int) : fIx S (.tup xs) (.int i) = atI xs i := rfl
@[simp] theorem fIx_ref (S : Sto) (n : Nat) (i : Int) : fIx S (.ref n) (.int i) = (match S[n]? with
    | some (.lst xs) => atI xs i
    | _ => none) := rfl
@[simp] theorem fIs_non (S : Sto) (d : D) : fIs S d .non = some (.bl d.isN) := rfl
@[simp] theorem fIsNot_non (S : Sto) (d : D) : fIsNot S d .non = some (.bl (!d.isN)) := rfl
@[simp] theorem isN_non : D.isN .non = true := rfl
@[simp] theorem isN_int (i : Int) : D.isN (.int i) = false := rfl
@[simp] theorem oNone_eq (env : Envr) (S : Sto) : oNone env S = .ok none S := rfl
@[simp] theorem oSome_eq (me : ME) (env : Envr) (S : Sto) : oSome me env S = (me env S).bind fun d S1 => match d with
  | .int i => .ok (some i) S1
  | _ => .stuck := rfl
@[simp] theorem fSl_eq (me : ME) (ml mh : MO) (env : Envr) (S : Sto) : fSl me ml mh env S = (me env S).bind fun d S1 => (ml env S1).bind fun lo S2 => (mh env S2).bind fun hi S3 => match d with
  | .lst ds => .ok (.lst (cutD ds lo hi)) S3
  | .scr ns => .ok (.lst (cutD (ns.map D.int) lo hi)) S3
  | _ => .stuck := rfl
@[simp] theorem sApp_eq (i : Nat) (me : ME) (env : Envr) (S : Sto) : sApp i me env S = (match env[i]? with
  | some (.o (.lst ds)) => (me env S).out env fun d S1 => if szB (ds.length + 1) then .nx (env.set i (.o (.lst (ds ++ [d])))) S1 else .stuck
  | _ => .stuck) := rfl
@[simp] theorem sIns_eq (i : Nat) (mk me : ME) (env : Envr) (S : Sto) : sIns i mk me env S = (match env[i]? with
  | some (.o (.lst ds)) => (mk env S).out env fun k S1 => (me env S1).out env fun d S2 => match k with
    | .int k => if decide (0 ≤ k) && (bBnd k 9223372036854775807 && szB (ds.length + 1)) then .nx (env.set i (.o (.lst (ds.take k.toNat ++ [d] ++ ds.drop k.toNat)))) S2 else .stuck
    | _ => .stuck
  | _ => .stuck) := rfl
@[simp] theorem sPut_eq (i : Nat) (mk me : ME) (env : Envr) (S : Sto) : sPut i mk me env S = (me env S).out env fun d S1 => match env[i]? with
  | some (.o (.lst ds)) => (mk env S1).out env fun k S2 => (match k with
    | .int k => (match ixN ds.length k with
      | some j => .nx (env.set i (.o (.lst (ds.set j d)))) S2
      | none => .stuck)
    | _ => .stuck)
  | some (.v (.ref n)) => (mk env S1).out env fun k S2 => (match S2[n]?, k with
    | some (.lst ds), .int k => (match ixN ds.length k with
      | some j => .nx env (S2.set n (.lst (ds.set j d)))
      | none => .stuck)
    | _, _ => .stuck)
  | _ => .stuck := rfl
@[simp] theorem sAug_eq (i : Nat) (f : Int → Int → Int) (me : ME) (env : Envr) (S : Sto) : sAug i f me env S = (match env[i]? with
  | some (.v (.int k)) => (me env S).out env fun d S1 => (match d with
    | .int j => .nx (env.set i (.v (.int (f k j)))) S1
    | _ => .stuck)
  | _ => .stuck) := rfl
@[simp] theorem sRaise_eq (c : Str) (env : Envr) (S : Sto) : sRaise c env S = .exc c none env S := rfl
@[simp] theorem eFld_eq (c f : Str) (me : ME) (env : Envr) (S : Sto) : eFld c f me env S = (me env S).bind fun d S1 => match insOf c S1 d with
  | some fs => opt (fs.lookup f) S1
  | none => .stuck := rfl
@[simp] theorem insOf_ins (c c' : Str) (S : Sto) (fs : List (Str × D)) : insOf c S (.ins c' fs) = if c' = c then some fs else none := rfl
@[simp] theorem insOf_ref (c : Str) (S : Sto) (n : Nat) : insOf c S (.ref n) = (match S[n]? with
    | some (.ins c' fs) => if c' = c then some fs else none
    | _ => none) := rfl
@[simp] theorem sFldC_eq (c f : Str) (mo me : ME) (env : Envr) (S : Sto) : sFldC c f mo me env S = (me env S).out env fun y S1 => (mo env S1).out env fun d S2 => match d with
  | .ref n => (match S2[n]? with
    | some (.ins c' fs) => if c' = c ∧ fs.length < 1000 then .nx env (S2.set n (.ins c (putFD f y fs))) else .stuck
    | _ => .stuck)
  | _ => .stuck := rfl
@[simp] theorem mGo_eq (c x : Str) (mf : MFn) (dd : List D) (mo : ME) (m : MA) (F : Ret → Sto → R α) (env : Envr) (S : Sto) : mGo c x mf dd mo m F env S = (mo env S).bind fun o S1 => match insOf c S1 o with
  | some fs => if fs.lookup x = none then (m env S1).bind fun ds S2 => (mf (o :: (ds ++ dd)) S2).bind F else .stuck
  | none => .stuck := rfl
@[simp] theorem eMeth_eq (c x : Str) (mf : MFn) (dd : List D) (mo : ME) (m : MA) (env : Envr) (S : Sto) : eMeth c x mf dd mo m env S = mGo c x mf dd mo m (fun r S => .ok r.d S) env S := rfl
@[simp] theorem eNew_eq (c : Str) (mf : MFn) (dd : List D) (m : MA) (env : Envr) (S : Sto) : eNew c mf dd m env S = (m env S).bind fun ds S1 => popI c S1 (mf (.ref S1.length :: (ds ++ dd)) (S1 ++ [.ins c []])) := rfl
@[simp] theorem sCell_eq (i : Nat) (mf : MF) (env : Envr) (S : Sto) : sCell i mf env S = (mf env S).out env fun c S1 => .nx (env.set i (.v (.ref S1.length))) (S1 ++ [c]) := rfl
@[simp] theorem frzAt_eq (i : Nat) (env : Envr) : frzAt i env = (match env[i]? with
  | some (.o c) => env.set i (.v c.d)
  | _ => env) := rfl
@[simp] theorem sFrz_eq (i : Nat) (m : MS) (env : Envr) (S : Sto) : sFrz i m env S = m (frzAt i env) S := rfl
@[simp] theorem sAugC_eq (mo mk : ME) (f : Int → Int → Int) (me : ME) (env : Envr) (S : Sto) : sAugC mo mk f me env S = (mo env S).out env fun o S1 => (mk env S1).out env fun k S2 => match o, k with
  | .ref n, .int k => (match S2[n]? with
    | some (.lst ds) => (match atI ds k with
      | some (.int x) => (me env S2).out env fun d S3 => (match d, S3[n]? with
        | .int y, some (.lst ds') => (match ixN ds'.length k with
          | some j => .nx env (S3.set n (.lst (ds'.set j (.int (f x y)))))
          | none => .stuck)
        | _, _ => .stuck)
      | _ => .stuck)
    | _ => .stuck)
  | _, _ => .stuck := rfl
@[simp] theorem eLenA_eq (i : Nat) (env : Envr) (S : Sto) : eLenA i env S = (match env[i]? with
  | some (.o (.lst ds)) => .ok (.int ds.length) S
  | some (.v d) => opt (fLen S [d]) S
  | _ => .stuck) := rfl
@[simp] theorem eIxA_eq (i : Nat) (mk : ME) (env : Envr) (S : Sto) : eIxA i mk env S = (match env[i]? with
  | some (.o (.lst ds)) => (mk env S).bind fun k S1 => (match k with
    | .int k => opt (atI ds k) S1
    | _ => .stuck)
  | some (.v d) => (mk env S).bind fun k S1 => opt (fIx S1 d k) S1
  | _ => .stuck) := rfl
end
theorem forL_inv {I : List D → Envr → Sto → Prop} {g : MG} {b : MS} (step : ∀ d ds env S, I (d :: ds) env S → ∃ e1, g d env = some e1 ∧ ∃ e2 S2, (b e1 S = .nx e2 S2 ∨ b e1 S = .ct e2 S2) ∧ I ds e2 S2) :
    ∀ (ds : List D) (env : Envr) (S : Sto), I ds env S → ∃ e' S', forL g b ds env S = .nx e' S' ∧ I [] e' S'
  | [], env, S, h => ⟨env, S, rfl, h⟩
  | d :: ds, env, S, h => by
    obtain ⟨e1, h1, e2, S2, h2, h3⟩ := step d ds env S h
    unfold forL
    rw [h1]
    rcases h2 with h2 | h2 <;> (simp only [h2]; exact forL_inv step ds e2 S2 h3)
theorem lcR_map {g : MG} {tt : MT} {te : ME} {env : Envr} {S : Sto} (p : D → Bool) (f : D → D) : ∀ (ds : List D), (∀ d ∈ ds, ∃ e1, g d env = some e1 ∧ tt e1 S = .ok (p d) S ∧ (p d = true → te e1 S = .ok (f d) S)) →
    lcR g tt te env ds S = .ok ((ds.filter p).map f) S
  | [], _ => rfl
  | d :: ds, h => by
    obtain ⟨e1, h1, h2, h3⟩ := h d List.mem_cons_self
    have ih := lcR_map p f ds fun x hx => h x (List.mem_cons_of_mem _ hx)
    unfold lcR
    rw [h1]
    cases z : p d with
    | true => simp only [h2, z, h3 z, ih, bind_ok', List.filter_cons, if_true, List.map_cons]
    | false => simp [h2, z, ih, List.filter_cons]
theorem lcR_inv {I : List D → List D → Sto → Prop} {g : MG} {te : ME} {env : Envr} (step : ∀ d ds ys S, I (d :: ds) ys S → ∃ e1, g d env = some e1 ∧ ∃ y S2, te e1 S = .ok y S2 ∧ I ds (ys ++ [y]) S2) :
    ∀ (ds ys : List D) (S : Sto), I ds ys S → ∃ zs S', lcR g cYes te env ds S = .ok zs S' ∧ I [] (ys ++ zs) S'
  | [], ys, S, h => ⟨[], S, rfl, by rwa [List.append_nil]⟩
  | d :: ds, ys, S, h => by
    obtain ⟨e1, h1, y, S2, h2, h3⟩ := step d ds ys S h
    obtain ⟨zs, S', h4, h5⟩ := lcR_inv step ds (ys ++ [y]) S2 h3
    refine ⟨y :: zs, S', ?_, by simpa using h5⟩
    unfold lcR
    rw [h1]
    simp [h2, h4]
@[simp] theorem band_nat (a b : Nat) : Builtin.bitAnd (a : Int) (b : Int) = ((a &&& b : Nat) : Int) := by simp [Builtin.bitAnd]
@[simp] theorem bxor_nat (a b : Nat) : Builtin.bitXor (a : Int) (b : Int) = ((a ^^^ b : Nat) : Int) := Bits.bitXor_pp (Int.natCast_nonneg a) (Int.natCast_nonneg b) |>.trans (by simp)
theorem bits_nat {n : Nat} (h : n ≠ 0) : Builtin.Int.intBits (n : Int) = n.log2 + 1 := by
  unfold Builtin.Int.intBits
  have : ((n : Int) == 0) = false := by simpa using h
  rw [this]
  simp
@[simp] theorem shr_nat (a k : Nat) : (a : Int) / 2 ^ k = ((a >>> k : Nat) : Int) := by
  rw [Nat.shiftRight_eq_div_pow]
  simp
abbrev nd (n : Nat) : D := .int (n : Int)
def nl (xs : List Nat) : List D := xs.map nd
@[simp] theorem nl_nil : nl [] = [] := rfl
@[simp] theorem nl_cons (x : Nat) (xs : List Nat) : nl (x :: xs) = .int (x : Int) :: nl xs := rfl
@[simp] theorem nl_len (xs : List Nat) : (nl xs).length = xs.length := by simp [nl]
@[simp] theorem nl_append (xs ys : List Nat) : nl xs ++ nl ys = nl (xs ++ ys) := by simp [nl]
theorem szB_of {n : Nat} (h : n ≤ 100000) : szB n = true := decide_eq_true h
end Mm
namespace Gf
theorem Sp.image (f : Nat → Nat) (f0 : f 0 = 0) (fx : ∀ x y, f (x ^^^ y) = f x ^^^ f y) {B : List Nat} {x : Nat} (h : Sp B x) : Sp (B.map f) (f x) := by
  obtain ⟨m, rfl⟩ := h
  exact ⟨m, app_map f f0 fx B m⟩
abbrev PP := Nat × Nat
def tst (s p : PP) : PP := if s.1.testBit p.1.log2 then (s.1 ^^^ p.1, s.2 ^^^ p.2) else s
def tred (s : PP) (F : List PP) : PP := F.foldl tst s
abbrev TS2 := List PP × List Nat
def wst (l p : PP) : PP := if p.1.testBit l.1.log2 then (p.1 ^^^ l.1, p.2 ^^^ l.2) else p
def tstep (st : TS2) (k x : Nat) : TS2 := if (tred (x, 2 ^ k) st.1).1 = 0 then (st.1, st.2 ++ [(tred (x, 2 ^ k) st.1).2]) else (tred (x, 2 ^ k) st.1 :: st.1.map (wst (tred (x, 2 ^ k) st.1)), st.2)
def tgo : List Nat → Nat → TS2 → TS2
  | [], _, st => st
  | x :: xs, k, st => tgo xs (k + 1) (tstep st k x)
def tra (rs : List Nat) : TS2 := tgo rs 0 ([], [])
def trail (rs : List Nat) (x : Nat) : Option Nat := if (tred (x, 0) (tra rs).1).1 = 0 then some (tred (x, 0) (tra rs).1).2 else none
end Gf
namespace Fb
open PySem L2 Mm
noncomputable def m__law_box : MFn := mFn 1 (sRetF (fLst (aCons (mFrz (fCB fListOf (aCons (mFrz (fSl (eV 0) oNone (oSome (eC (.int 63))))) aNil))) (aCons (eC (.int 0)) (aCons (eC (.int 0)) (aCons (eC (.int 41)) aNil))))))
noncomputable def m__law_take : MFn := mFn 5 (sSeq (sIf (cB (eOp iGt (eOp fIx (eV 0) (eC (.int 2))) (eC (.int 0)))) (sSeq (sAsg (eOp fIx (eV 0) (eC (.int 2))) (gN 2))
    (sSeq (sPut 0 (eC (.int 2)) (eOp iDiv (eV 2) (eV 1)))
    (sRet (eOp iMod (eV 2) (eV 1))))) sNil)
    (sSeq (sAsg (eC (.int 0)) (gN 3))
    (sSeq (sIf (cB (eOp iLt (eOp fIx (eV 0) (eC (.int 1))) (eCB fLen (aCons (eOp fIx (eV 0) (eC (.int 0))) aNil)))) (sSeq (sAsg (eOp fIx (eOp fIx (eV 0) (eC (.int 0))) (eOp fIx (eV 0) (eC (.int 1)))) (gN 3))
    (sAugC (eV 0) (eC (.int 1)) (fun i j => i + j) (eC (.int 1)))) sNil)
    (sSeq (sIf (cB (eOp iGe (eV 3) (eOp iPow (eC (.int 10)) (eC (.int 18))))) (sSeq (sPut 0 (eC (.int 2)) (eOp iDiv (eV 3) (eV 1)))
    (sRet (eOp iMod (eV 3) (eV 1)))) sNil)
    (sSeq (sAsg (eOp fIx (eV 0) (eC (.int 3))) (gN 4))
    (sSeq (sPut 0 (eC (.int 3)) (eOp iMod (eOp dAdd (eOp dAdd (eOp dAdd (eOp iPow (eV 4) (eC (.int 3))) (eOp iMul (eC (.int 69621)) (eV 4))) (eOp iMul (eC (.int 40693)) (eOp iMod (eV 3) (eC (.int 2147483549))))) (eC (.int 17))) (eC (.int 2147483549))))
    (sRet (eOp iMod (eOp iDiv (eOp fIx (eV 0) (eC (.int 3))) (eC (.int 64))) (eV 1)))))))))
noncomputable def m_FoldU_initU : MFn := mFn 4 (sSeq (sIf (cOr (cB (eOp iLt (eV 2) (eC (.int 0)))) (cOr (cB (eOp iGt (eV 2) (eC (.int 12)))) (cB (eOp iGt (eCB fLen (aCons (eV 1) aNil)) (eC (.int 12)))))) (sRaise "BadFold") sNil)
    (sSeq (sFor (itL (eV 1)) (gN 3) (sIf (cOr (cB (eOp iLt (eV 3) (eC (.int 0)))) (cB (eOp iGt (eOp iShr (eV 3) (eV 2)) (eC (.int 0))))) (sRaise "BadFold") sNil))
    (sSeq (sFldC "Fold" "lines" (eV 0) (eCB fTupOf (aCons (eV 1) aNil)))
    (sFldC "Fold" "wide" (eV 0) (eV 2)))))
noncomputable def m__law_shuffled : MFn := mFn 4 (sSeq (sOwn 2 (fLst aNil))
    (sSeq (sFor (itL (eV 1)) (gN 3) (sIns 2 (eCall m__law_take [] (aCons (eV 0) (aCons (eOp dAdd (eLenA 2) (eC (.int 1))) aNil))) (eV 3)))
    (sRetO 2)))
noncomputable def m__law_numbers : MFn := mFn 4 (sRetF (fLc (itR1 (aCons (eV 1) aNil)) (gN 3) cYes (eCall m__law_take [] (aCons (eV 0) (aCons (eOp iShl (eC (.int 1)) (eV 2)) aNil))) [3]))
noncomputable def m__law_lines : MFn := mFn 9 (sSeq (sOwn 3 (fLc (itR1 (aCons (eV 2) aNil)) (gN 7) cYes (eOp iShl (eC (.int 1)) (eV 7)) [7]))
    (sFrz 3 (sSeq (sOwn 3 (fCall m__law_shuffled [] (aCons (eV 0) (aCons (eOp dAdd (eV 3) (eCall m__law_numbers [] (aCons (eV 0) (aCons (eOp iSub (eV 1) (eV 2)) (aCons (eV 2) aNil))))) aNil))))
    (sSeq (sFor (itR1 (aCons (eOp iMul (eCall m__law_take [] (aCons (eV 0) (aCons (eC (.int 7)) aNil))) (eCB fInt (aCons (eOp iGt (eV 1) (eC (.int 1))) aNil))) aNil)) (gN 4) (sSeq (sAsg (eCall m__law_take [] (aCons (eV 0) (aCons (eV 1) aNil))) (gN 5))
    (sSeq (sAsg (eOp dAdd (eOp dAdd (eV 5) (eC (.int 1))) (eCall m__law_take [] (aCons (eV 0) (aCons (eOp iSub (eV 1) (eC (.int 1))) aNil)))) (gN 6))
    (sPut 3 (eV 5) (eOp iXor (eIxA 3 (eV 5)) (eIxA 3 (eOp iMod (eV 6) (eV 1))))))))
    (sSeq (sFor (itR1 (aCons (eOp iMul (eCall m__law_take [] (aCons (eV 0) (aCons (eC (.int 4)) aNil))) (eCB fInt (aCons (eOp iGt (eV 2) (eC (.int 1))) aNil))) aNil)) (gN 4) (sSeq (sAsg (eCall m__law_take [] (aCons (eV 0) (aCons (eV 2) aNil))) (gN 5))
    (sSeq (sAsg (eOp iMod (eOp dAdd (eOp dAdd (eV 5) (eC (.int 1))) (eCall m__law_take [] (aCons (eV 0) (aCons (eOp iSub (eV 2) (eC (.int 1))) aNil)))) (eV 2)) (gN 6))
    (sFrz 3 (sOwn 3 (fLc (itL (eV 3)) (gN 8) cYes (eOp iXor (eV 8) (eOp iShl (eOp iAnd (eOp iShr (eV 8) (eV 5)) (eC (.int 1))) (eV 6))) [8]))))))
    (sFrz 3 (sRet (eCB fTupOf (aCons (eV 3) aNil)))))))))
noncomputable def m_Fold_many : MFn := mFn 1 (sRet (eCB fLen (aCons (eFld "Fold" "lines" (eV 0)) aNil)))
noncomputable def m_Fold_size : MFn := mFn 1 (sRet (eFld "Fold" "wide" (eV 0)))
noncomputable def m_blended : MFn := mFn 3 (sSeq (sAsg (eC (.int 0)) (gN 1))
    (sSeq (sFor (itL (eV 0)) (gN 2) (sAsg (eOp iXor (eV 1) (eV 2)) (gN 1)))
    (sRet (eV 1))))
noncomputable def m_picked : MFn := mFn 4 (sRet (eCall m_blended [] (aCons (mFrz (fLc (itES (aCons (eV 0) aNil)) (gT (gNC (gN 2) (gNC (gN 3) gN0))) (cB (eOp fEq (eOp iAnd (eOp iShr (eV 1) (eV 2)) (eC (.int 1))) (eC (.int 1)))) (eV 3) [2, 3])) aNil)))
noncomputable def m_Fold_to : MFn := mFn 2 (sSeq (sIf (cOr (cB (eOp iLt (eV 1) (eC (.int 0)))) (cB (eOp iGt (eOp iShr (eV 1) (eCB fLen (aCons (eFld "Fold" "lines" (eV 0)) aNil))) (eC (.int 0))))) (sRaise "BadNumber") sNil)
    (sRet (eCall m_picked [] (aCons (eFld "Fold" "lines" (eV 0)) (aCons (eV 1) aNil)))))
noncomputable def m_Fold_then : MFn := mFn 3 (sSeq (sIf (cB (eOp fNe (eMeth "Fold" "many" m_Fold_many [] (eV 1) aNil) (eFld "Fold" "wide" (eV 0)))) (sRaise "Unfit") sNil)
    (sRet (eNew "Fold" m_FoldU_initU [] (aCons (mFrz (fLc (itL (eFld "Fold" "lines" (eV 0))) (gN 2) cYes (eMeth "Fold" "to" m_Fold_to [] (eV 1) (aCons (eV 2) aNil)) [2])) (aCons (eMeth "Fold" "size" m_Fold_size [] (eV 1) aNil) aNil)))))
noncomputable def m_top_of : MFn := mFn 1 (sRet (eOp iShl (eC (.int 1)) (eOp iSub (eBits (eV 0)) (eC (.int 1)))))
noncomputable def m_reduced : MFn := mFn 4 (sSeq (sAsg (eV 0) (gN 2))
    (sSeq (sFor (itL (eV 1)) (gN 3) (sIf (cB (eOp iGt (eOp iAnd (eV 2) (eCall m_top_of [] (aCons (eV 3) aNil))) (eC (.int 0)))) (sAsg (eOp iXor (eV 2) (eV 3)) (gN 2)) sNil))
    (sRet (eV 2))))
noncomputable def m_basis_of : MFn := mFn 6 (sSeq (sAsg (mFrz (fLst aNil)) (gN 1))
    (sSeq (sFor (itL (eV 0)) (gN 2) (sSeq (sAsg (eCall m_reduced [] (aCons (eV 2) (aCons (eV 1) aNil))) (gN 3))
    (sIf (cB (eOp iGt (eV 3) (eC (.int 0)))) (sSeq (sAsg (eCall m_top_of [] (aCons (eV 3) aNil)) (gN 4))
    (sAsg (eOp dAdd (mFrz (fLc (itL (eV 1)) (gN 5) cYes (eIf (cB (eOp iGt (eOp iAnd (eV 5) (eV 4)) (eC (.int 0)))) (eOp iXor (eV 5) (eV 3)) (eV 5)) [5])) (mFrz (fLst (aCons (eV 3) aNil)))) (gN 1))) sNil)))
    (sRetF (fCB fSorted (aCons (eV 1) aNil)))))
noncomputable def m_Fold_onto : MFn := mFn 1 (sRet (eOp fEq (eCB fLen (aCons (eCall m_basis_of [] (aCons (eFld "Fold" "lines" (eV 0)) aNil)) aNil)) (eFld "Fold" "wide" (eV 0))))
noncomputable def m_Fold_rows : MFn := mFn 1 (sRet (eFld "Fold" "lines" (eV 0)))
end Fb
namespace Mm
open PySem L2
theorem pyAll_ints : ∀ xs : List Int, pyAll (xs.map D.int) = some (xs.map PyData.int)
  | [] => by simp [pyAll]
  | x :: xs => by simp [pyAll, D.py, pyAll_ints xs]
theorem canLay_ints : ∀ xs : List Int, PyData.canLayAll0 (xs.map PyData.int) = true
  | [] => by simp [PyData.canLayAll0]
  | x :: xs => by simp [PyData.canLayAll0, PyData.canLay0, canLay_ints xs]
theorem depth_ints : ∀ xs : List Int, PyData.depthAll (xs.map PyData.int) = 0
  | [] => by simp [PyData.depthAll]
  | x :: xs => by simp [PyData.depthAll, PyData.depth, depth_ints xs]
theorem eqv_ints : ∀ xs ys : List Int, PyData.eqvAll (xs.map PyData.int) (ys.map PyData.int) = decide (xs = ys)
  | [], [] => by simp [PyData.eqvAll]
  | [], y :: ys => by simp [PyData.eqvAll]
  | x :: xs, [] => by simp [PyData.eqvAll]
  | x :: xs, y :: ys => by
    rw [List.map_cons, List.map_cons, PyData.eqvAll, eqv_ints xs ys, PyData.eqv]
    by_cases h : x = y <;> by_cases h2 : xs = ys <;> simp [h, h2]
theorem shaped_list (xs : List Int) : SeqAt.shaped (.list (xs.map PyData.int)) = true := by simp [SeqAt.shaped, PyData.canLay0, PyData.depth, canLay_ints, depth_ints]
theorem shaped_tup (xs : List Int) : SeqAt.shaped (.tuple (xs.map PyData.int)) = true := by simp [SeqAt.shaped, PyData.canLay0, PyData.depth, canLay_ints, depth_ints]
theorem shaped_int (x : Int) : SeqAt.shaped (.int x) = true := by simp [SeqAt.shaped, PyData.canLay0, PyData.depth]
@[simp] theorem fEq_int (S : Sto) (i j : Int) : fEq S (.int i) (.int j) = some (.bl (decide (i = j))) := by
  simp [fEq, D.py, shaped_int, PyData.eqv]
  rfl
@[simp] theorem fNe_int (S : Sto) (i j : Int) : fNe S (.int i) (.int j) = some (.bl (!decide (i = j))) := by
  simp [fNe, D.py, shaped_int, PyData.eqv]
  rfl
theorem fEq_tupI (S : Sto) (xs ys : List Int) : fEq S (.tup (xs.map D.int)) (.tup (ys.map D.int)) = some (.bl (decide (xs = ys))) := by
  simp [fEq, D.py, pyAll_ints, shaped_tup, PyData.eqv, eqv_ints]
theorem fNe_lstI (S : Sto) (xs ys : List Int) : fNe S (.lst (xs.map D.int)) (.lst (ys.map D.int)) = some (.bl (!decide (xs = ys))) := by
  simp [fNe, D.py, pyAll_ints, shaped_list, PyData.eqv, eqv_ints]
theorem fNe_tupI (S : Sto) (xs ys : List Int) : fNe S (.tup (xs.map D.int)) (.tup (ys.map D.int)) = some (.bl (!decide (xs = ys))) := by
  simp [fNe, D.py, pyAll_ints, shaped_tup, PyData.eqv, eqv_ints]
theorem nl_eq (xs : List Nat) : nl xs = (xs.map Int.ofNat).map D.int := by simp [nl]
theorem ofNat_inj {xs ys : List Nat} : xs.map Int.ofNat = ys.map Int.ofNat ↔ xs = ys := by
  constructor
  · intro h
    have := congrArg (List.map Int.toNat) h
    rw [List.map_map, List.map_map] at this
    have e : Int.toNat ∘ Int.ofNat = id := by funext x; rfl
    simpa [e] using this
  · rintro rfl
    rfl
@[simp] theorem fEq_tup (S : Sto) (xs ys : List Nat) : fEq S (.tup (nl xs)) (.tup (nl ys)) = some (.bl (decide (xs = ys))) := by
  rw [nl_eq, nl_eq, fEq_tupI]
  congr 2
  exact decide_eq_decide.mpr ofNat_inj
@[simp] theorem fNe_tup (S : Sto) (xs ys : List Nat) : fNe S (.tup (nl xs)) (.tup (nl ys)) = some (.bl (!decide (xs = ys))) := by
  rw [nl_eq, nl_eq, fNe_tupI]
  congr 3
  exact decide_eq_decide.mpr ofNat_inj
theorem intsOf_ints : ∀ xs : List Int, intsOf (xs.map D.int) = some xs
  | [] => rfl
  | x :: xs => by simp [intsOf, intsOf_ints xs]
@[simp] theorem intsOf_nl (xs : List Nat) : intsOf (nl xs) = some (xs.map Int.ofNat) := by
  rw [nl_eq, intsOf_ints]
def nins (x : Nat) : List Nat → List Nat
  | [] => [x]
  | y :: ys => if x ≤ y then x :: y :: ys else y :: nins x ys
def nsrt : List Nat → List Nat
  | [] => []
  | x :: xs => nins x (nsrt xs)
theorem ins1_nat (x : Nat) : ∀ ys : List Nat, ins1 (Int.ofNat x) (ys.map Int.ofNat) = (nins x ys).map Int.ofNat
  | [] => rfl
  | y :: ys => by
    rw [List.map_cons, ins1, nins, ins1_nat x ys]
    by_cases h : x ≤ y
    · rw [if_pos h, if_pos (by simpa using h)]
      rfl
    · rw [if_neg h, if_neg (by simpa using h)]
      rfl
theorem isrt_nat : ∀ xs : List Nat, isrt (xs.map Int.ofNat) = (nsrt xs).map Int.ofNat
  | [] => rfl
  | x :: xs => by rw [List.map_cons, isrt, isrt_nat xs, nsrt, ins1_nat]
@[simp] theorem fSorted_nl (S : Sto) (xs : List Nat) : fSorted S [.lst (nl xs)] = some (.lst (nl (nsrt xs))) := by
  rw [fSorted_lst, intsOf_nl, Option.map_some, isrt_nat, nl_eq]
theorem nins_perm (x : Nat) : ∀ ys : List Nat, (nins x ys).Perm (x :: ys)
  | [] => .refl _
  | y :: ys => by
    unfold nins
    split
    · exact .refl _
    · exact ((nins_perm x ys).cons y).trans (.swap x y ys)
theorem nsrt_perm : ∀ xs : List Nat, (nsrt xs).Perm xs
  | [] => .refl _
  | x :: xs => (nins_perm x _).trans ((nsrt_perm xs).cons x)
@[simp] theorem nsrt_len (xs : List Nat) : (nsrt xs).length = xs.length := (nsrt_perm xs).length_eq
end Mm
namespace Fb
open PySem L2 Mm Gf
theorem nl_map {xs : List Nat} {f : D → D} {g : Nat → Nat} (h : ∀ x ∈ xs, f (nd x) = nd (g x)) : (nl xs).map f = nl (xs.map g) := by
  simp only [nl, List.map_map]
  exact List.map_congr_left fun x hx => h x hx
theorem mem_nl {d : D} {xs : List Nat} : d ∈ nl xs ↔ ∃ x ∈ xs, d = nd x := by
  unfold nl
  rw [List.mem_map]
  constructor
  · rintro ⟨x, hx, e⟩
    exact ⟨x, hx, e.symm⟩
  · rintro ⟨x, hx, e⟩
    exact ⟨x, hx, e.symm⟩
theorem and_pow_pos (l k : Nat) : decide ((0 : Int) < ((l &&& 2 ^ k : Nat) : Int)) = l.testBit k := by
  cases z : l.testBit k with
  | true =>
    have : (l &&& 2 ^ k).testBit k = true := by rw [Nat.testBit_and, z, Nat.testBit_two_pow]; simp
    have := ne_of_bit this
    exact decide_eq_true (by omega)
  | false =>
    have : l &&& 2 ^ k = 0 := Nat.eq_of_testBit_eq fun i => by
      rw [Nat.testBit_and, Nat.testBit_two_pow]
      by_cases e : k = i
      · subst e
        simp [z]
      · simp [e]
    rw [this]
    rfl
theorem powB_of {i : Int} {j : Int} (h0 : 0 ≤ j) (h1 : j ≤ 1000000) (hi : i.natAbs < 2 ^ 64) : powB i j = true := by
  unfold powB
  rw [decide_eq_true h0, bBnd_iff.mpr (show j.natAbs ≤ 1000000 by omega), bBnd_iff.mpr (show i.natAbs ≤ 18446744073709551615 by omega)]
  rfl
theorem top_ok (S : Sto) {n : Nat} (h : n ≠ 0) (hb : n.log2 ≤ 1000) : m_top_of [.int n] S = .ok (.val (nd (2 ^ n.log2))) S := by
  have e : ((n.log2 + 1 : Nat) : Int) - 1 = ((n.log2 : Nat) : Int) := by omega
  simp [m_top_of, bits_nat h]
  rw [if_pos (powB_of (by omega) (by omega) (by decide))]
  simp
theorem blended_ok (S : Sto) (xs : List Nat) : m_blended [.lst (nl xs)] S = .ok (.val (nd (xs.foldl (· ^^^ ·) 0))) S := by
  have key := forL_inv (I := fun ds env S' => S' = S ∧ ∃ (l : Nat) (bs : List Nat) (s : Sl), ds = nl bs ∧ env = [.v (.lst (nl xs)), .v (nd l), s] ∧ bs.foldl (· ^^^ ·) l = xs.foldl (· ^^^ ·) 0) (g := gN 2) (b := sAsg (eOp iXor (eV 1) (eV 2)) (gN 1))
    (fun d ds env S' h => by
      obtain ⟨rfl, l, bs, s, e1, rfl, e3⟩ := h
      cases bs with
      | nil => simp at e1
      | cons b bs =>
        simp at e1
        obtain ⟨rfl, rfl⟩ := e1
        refine ⟨_, rfl, [.v (.lst (nl xs)), .v (nd (l ^^^ b)), .v (nd b)], S', .inl ?_, rfl, _, bs, _, rfl, rfl, e3⟩
        simp) (nl xs) [.v (.lst (nl xs)), .v (nd 0), .no] S ⟨rfl, 0, xs, .no, rfl, rfl, rfl⟩
  obtain ⟨e', S', h1, rfl, l, bs, s, e1, rfl, e3⟩ := key
  have : bs = [] := by
    cases bs with
    | nil => rfl
    | cons b bs => simp at e1
  subst this
  simp [m_blended]
  have h1' : forL (gN 2) (sAsg (eOp iXor (eV 1) (eV 2)) (gN 1)) (nl xs) [.v (.lst (nl xs)), .v (.int 0), .no] S' = .nx [.v (.lst (nl xs)), .v (nd l), s] S' := h1
  rw [h1']
  simp at e3
  simp [e3]
end Fb
namespace Mm
open PySem L2
theorem forM {α β σ : Type} {g : MG} {b : MS} {S : Sto} (φ : β → D) (E : α → σ → Envr) (f : α → β → α) (P : α → Prop) : ∀ (xs : List β),
    (∀ a s x, x ∈ xs → P a → ∃ e1, g (φ x) (E a s) = some e1 ∧ ∃ s2, b e1 S = .nx (E (f a x) s2) S ∧ P (f a x)) →
    ∀ a s, P a → ∃ s2, forL g b (xs.map φ) (E a s) S = .nx (E (xs.foldl f a) s2) S ∧ P (xs.foldl f a)
  | [], _, a, s, h => ⟨s, rfl, h⟩
  | x :: xs, step, a, s, h => by
    obtain ⟨e1, h1, s2, h2, h3⟩ := step a s x List.mem_cons_self h
    obtain ⟨s3, h4, h5⟩ := forM φ E f P xs (fun a s y hy => step a s y (List.mem_cons_of_mem _ hy)) (f a x) s2 h3
    refine ⟨s3, ?_, h5⟩
    rw [List.map_cons, forL, h1]
    simp only [h2]
    exact h4
@[simp] theorem wipe_nil (env : Envr) : wipeE env [] = env.map hideS := rfl
@[simp] theorem wipe_cons (env : Envr) (v : Nat) (vs : List Nat) : wipeE env (v :: vs) = (wipeE env vs).set v .no := rfl
@[simp] theorem hide_v (d : D) : hideS (.v d) = .v d := rfl
@[simp] theorem hide_o (d : Cell) : hideS (.o d) = .no := rfl
@[simp] theorem hide_no : hideS .no = .no := rfl
end Mm
namespace Fb
open PySem L2 Mm Gf
@[simp] theorem gt_band (a k : Nat) : (0 < Builtin.bitAnd (a : Int) (2 ^ k)) ↔ a.testBit k = true := by
  have h := and_pow_pos a k
  have e : (2 : Int) ^ k = ((2 ^ k : Nat) : Int) := by simp
  rw [e, band_nat]
  rw [← h]
  simp
theorem reduced_ok (S : Sto) (x : Nat) (B : List Nat) (h : ∀ b ∈ B, b ≠ 0 ∧ b.log2 ≤ 1000) : m_reduced [.int x, .lst (nl B)] S = .ok (.val (nd (red x B))) S := by
  obtain ⟨s2, e, _⟩ := forM (S := S) (g := gN 3) (b := sIf (cB (eOp iGt (eOp iAnd (eV 2) (eCall m_top_of [] (aCons (eV 3) aNil))) (eC (.int 0)))) (sAsg (eOp iXor (eV 2) (eV 3)) (gN 2)) sNil)
    nd (fun (l : Nat) (s : Sl) => [.v (nd x), .v (.lst (nl B)), .v (nd l), s]) rst (fun _ => True) B (fun a s b hb _ => by
      refine ⟨[.v (nd x), .v (.lst (nl B)), .v (nd a), .v (nd b)], rfl, .v (nd b), ?_, trivial⟩
      simp [top_ok S (h b hb).1 (h b hb).2]
      unfold rst
      cases a.testBit b.log2 <;> simp) x .no trivial
  simp [m_reduced]
  have e' : forL (gN 3) (sIf (cB (eOp iGt (eOp iAnd (eV 2) (eCall m_top_of [] (aCons (eV 3) aNil))) (eC (.int 0)))) (sAsg (eOp iXor (eV 2) (eV 3)) (gN 2)) sNil) (nl B) [.v (.int x), .v (.lst (nl B)), .v (.int x), .no] S = _ := e
  rw [e']
  rfl
def sel (x : Nat) : Nat → List Nat → List Nat
  | _, [] => []
  | k, r :: rs => if x.testBit k then r :: sel x (k + 1) rs else sel x (k + 1) rs
theorem xor_fold : ∀ (xs : List Nat) (a : Nat), xs.foldl (· ^^^ ·) a = a ^^^ xs.foldl (· ^^^ ·) 0
  | [], a => by simp
  | x :: xs, a => by
    rw [List.foldl_cons, List.foldl_cons, xor_fold xs (a ^^^ x), xor_fold xs (0 ^^^ x), Nat.zero_xor, Nat.xor_assoc]
theorem sel_app (x : Nat) : ∀ (rs : List Nat) (k : Nat), (sel x k rs).foldl (· ^^^ ·) 0 = app rs (x / 2 ^ k)
  | [], _ => rfl
  | r :: rs, k => by
    have e : (x / 2 ^ k).testBit 0 = x.testBit k := by rw [Nat.testBit_div_two_pow]; simp
    have e2 : x / 2 ^ k / 2 = x / 2 ^ (k + 1) := by rw [Nat.div_div_eq_div_mul, Nat.pow_succ]
    rw [app_cons, e, e2, ← sel_app x rs (k + 1), sel]
    split
    · rw [List.foldl_cons, xor_fold, Nat.zero_xor]
    · rw [Nat.zero_xor]
@[simp] theorem bit_and_one (x k : Nat) : (Builtin.bitAnd ((x : Int) >>> k) 1 = 1) ↔ x.testBit k = true := by
  have e : ((x : Int) >>> k) = ((x >>> k : Nat) : Int) := rfl
  have : Builtin.bitAnd (((x >>> k : Nat) : Int)) 1 = ((x >>> k &&& 1 : Nat) : Int) := band_nat (x >>> k) 1
  rw [e, this, Nat.and_one_is_mod, Nat.testBit_eq_decide_div_mod_eq, Nat.shiftRight_eq_div_pow, decide_eq_true_eq]
  omega
theorem picked_ok (S : Sto) (rs : List Nat) (x : Nat) (hl : rs.length ≤ 1000) (a : D) (ha : a = .tup (nl rs) ∨ a = .lst (nl rs)) : m_picked [a, .int x] S = .ok (.val (nd (app rs x))) S := by
  have key : ∀ (ys : List Nat) (k : Nat), lcR (gT (gNC (gN 2) (gNC (gN 3) gN0))) (cB (eOp fEq (eOp iAnd (eOp iShr (eV 1) (eV 2)) (eC (.int 1))) (eC (.int 1)))) (eV 3) [.v a, .v (nd x), .no, .no] (enumD k (nl ys)) S = .ok (nl (sel x k ys)) S := fun ys => by
    induction ys with
    | nil => intro k; rfl
    | cons y ys ih =>
      intro k
      rw [nl_cons, enumD, lcR]
      simp [ih]
      cases z : x.testBit k <;> simp [sel, z, ih]
  have key0 := key rs 0
  have len : ∀ (ys : List Nat) (k : Nat), (sel x k ys).length ≤ ys.length := fun ys => by
    induction ys with
    | nil => intro k; simp [sel]
    | cons y ys ih =>
      intro k
      have := ih (k + 1)
      unfold sel
      split <;> simp <;> omega
  have l0 := len rs 0
  have sz := szB_of (n := (sel x 0 rs).length) (by omega)
  have b := blended_ok S (sel x 0 rs)
  rw [sel_app, Nat.pow_zero, Nat.div_one] at b
  rcases ha with rfl | rfl <;> simp [m_picked, key0, sz, b]
theorem small_log {w b : Nat} (hw : w ≤ 1000) (h0 : b ≠ 0) (h : b < 2 ^ w) : b.log2 ≤ 1000 := by
  have := (Nat.log2_lt h0).mpr h
  omega
def Small (w : Nat) (F : List Nat) : Prop := RR F ∧ ∀ b ∈ F, b < 2 ^ w
theorem Small.bst {w x : Nat} {F : List Nat} (h : Small w F) (hx : x < 2 ^ w) : Small w (bst F x) := by
  refine ⟨h.1.bst x, fun b hb => ?_⟩
  have := (sp_bst h.1).mp (Sp.mem hb)
  exact this.lt fun c hc => by
    rcases List.mem_cons.mp hc with e | hc
    · rw [e]
      exact hx
    · exact h.2 c hc
theorem basis_of_ok (S : Sto) {w : Nat} (xs : List Nat) (hw : w ≤ 1000) (h : ∀ x ∈ xs, x < 2 ^ w) (a : D) (ha : a = .tup (nl xs) ∨ a = .lst (nl xs)) : m_basis_of [a] S = .ok (.own (.lst (nl (nsrt (bas xs))))) S := by
  obtain ⟨s2, e, _⟩ := forM (S := S) (g := gN 2) (b := (sSeq (sAsg (eCall m_reduced [] (aCons (eV 2) (aCons (eV 1) aNil))) (gN 3))
    (sIf (cB (eOp iGt (eV 3) (eC (.int 0)))) (sSeq (sAsg (eCall m_top_of [] (aCons (eV 3) aNil)) (gN 4))
    (sAsg (eOp dAdd (mFrz (fLc (itL (eV 1)) (gN 5) cYes (eIf (cB (eOp iGt (eOp iAnd (eV 5) (eV 4)) (eC (.int 0)))) (eOp iXor (eV 5) (eV 3)) (eV 5)) [5])) (mFrz (fLst (aCons (eV 3) aNil)))) (gN 1))) sNil)))
    nd (fun (F : List Nat) (s : Sl × Sl × Sl) => [.v a, .v (.lst (nl F)), s.1, s.2.1, s.2.2, .no]) bst (Small w) xs (fun F s x hx hF => by
      refine ⟨[.v a, .v (.lst (nl F)), .v (nd x), s.2.1, s.2.2, .no], rfl, ?_⟩
      have r := reduced_ok S x F fun b hb => ⟨hF.1.1 b hb, small_log hw (hF.1.1 b hb) (hF.2 b hb)⟩
      have l := hF.1.len_le hF.2
      have rl : red x F < 2 ^ w := red_lt hF.2 (h x hx)
      by_cases z : red x F = 0
      · refine ⟨(.v (nd x), .v (nd (red x F)), s.2.2), ?_, hF.bst (h x hx)⟩
        have e : bst F x = F := if_pos z
        rw [e]
        simp [r, z]
      · refine ⟨(.v (nd x), .v (nd (red x F)), .v (nd (2 ^ (red x F).log2))), ?_, hF.bst (h x hx)⟩
        have e : bst F x = F.map (cst (red x F)) ++ [red x F] := if_neg z
        have t := top_ok S z (small_log hw z rl)
        have lc := lcR_map (S := S) (g := gN 5) (tt := cYes) (te := eIf (cB (eOp iGt (eOp iAnd (eV 5) (eV 4)) (eC (.int 0)))) (eOp iXor (eV 5) (eV 3)) (eV 5)) (env := [.v a, .v (.lst (nl F)), .v (nd x), .v (nd (red x F)), .v (nd (2 ^ (red x F).log2)), .no]) (fun _ => true) (fun d => match d with
          | .int i => nd (cst (red x F) i.toNat)
          | d => d) (nl F) (fun d hd => by
            obtain ⟨y, hy, rfl⟩ := mem_nl.mp hd
            refine ⟨[.v a, .v (.lst (nl F)), .v (nd x), .v (nd (red x F)), .v (nd (2 ^ (red x F).log2)), .v (nd y)], rfl, rfl, fun _ => ?_⟩
            simp
            unfold cst
            cases y.testBit (red x F).log2 <;> simp)
        rw [List.filter_eq_self.mpr (fun _ _ => rfl), nl_map (g := cst (red x F)) (fun y _ => by simp)] at lc
        have s1 := szB_of (n := F.length) (by omega)
        have s2 := szB_of (n := F.length + 1) (by omega)
        have s3 := szB_of (n := 1) (by omega)
        have pos : 0 < red x F := Nat.pos_of_ne_zero z
        simp [r, t, lc, s1, s2, s3, e, pos]
        exact nl_append _ [_]) [] (.no, .no, .no) ⟨.nil, fun _ h => by simp at h⟩
  have e' := e
  have fl : xs.foldl bst [] = bas xs := rfl
  rw [fl] at e'
  have s0 := szB_of (n := 0) (by omega)
  rcases ha with rfl | rfl <;> (simp [m_basis_of, s0]; erw [e']; simp)
end Fb
namespace Mm
open PySem L2
theorem forR {α β σ : Type} {g : MG} {b : MS} {S : Sto} (φ : β → D) (E : α → σ → Envr) (f : α → β → α) (P : List β → α → Prop) : ∀ (xs : List β),
    (∀ a s x r, P (x :: r) a → ∃ e1, g (φ x) (E a s) = some e1 ∧ ∃ s2, b e1 S = .nx (E (f a x) s2) S ∧ P r (f a x)) →
    ∀ a s, P xs a → ∃ s2, forL g b (xs.map φ) (E a s) S = .nx (E (xs.foldl f a) s2) S ∧ P [] (xs.foldl f a)
  | [], _, a, s, h => ⟨s, rfl, h⟩
  | x :: xs, step, a, s, h => by
    obtain ⟨e1, h1, s2, h2, h3⟩ := step a s x xs h
    obtain ⟨s3, h4, h5⟩ := forR φ E f P xs step (f a x) s2 h3
    refine ⟨s3, ?_, h5⟩
    rw [List.map_cons, forL, h1]
    simp only [h2]
    exact h4
theorem atI_nat {α : Type} (xs : List α) (k : Nat) : atI xs (k : Int) = xs[k]? := by
  unfold atI ixN
  rw [if_pos (Int.natCast_nonneg k)]
  by_cases h : k < xs.length
  · rw [if_pos (by omega)]
    simp
  · rw [if_neg (by omega)]
    simp
    omega
@[simp] theorem atI_0 {α : Type} (x : α) (xs : List α) : atI (x :: xs) 0 = some x := atI_nat (x :: xs) 0
@[simp] theorem atI_1 {α : Type} (x y : α) (xs : List α) : atI (x :: y :: xs) 1 = some y := atI_nat (x :: y :: xs) 1
@[simp] theorem atI_2 {α : Type} (x y z : α) (xs : List α) : atI (x :: y :: z :: xs) 2 = some z := atI_nat (x :: y :: z :: xs) 2
@[simp] theorem atI_3 {α : Type} (x y z u : α) (xs : List α) : atI (x :: y :: z :: u :: xs) 3 = some u := atI_nat (x :: y :: z :: u :: xs) 3
theorem ixN_of {n j : Nat} (hj : j < n) : ixN n (j : Int) = some j := by
  unfold ixN
  rw [if_pos (by omega), if_pos (by omega)]
  simp
end Mm
namespace Gf
def spl (B : List Nat) : List Nat := B.foldl (fun s b => s ++ s.map (· ^^^ b)) [0]
end Gf
namespace Fb
open PySem L2 Mm Gf
def ffs (rs : List Nat) (w : Nat) : List (Str × D) := [("lines", .tup (nl rs)), ("wide", nd w)]
def fold (rs : List Nat) (w : Nat) : D := .ins "Fold" (ffs rs w)
@[simp] theorem fold_ins (S : Sto) (rs : List Nat) (w : Nat) : insOf "Fold" S (fold rs w) = some (ffs rs w) := by
  unfold fold
  simp
@[simp] theorem ffs_lines (rs : List Nat) (w : Nat) : (ffs rs w).lookup ("lines" : Str) = some (D.tup (nl rs)) := rfl
@[simp] theorem ffs_wide (rs : List Nat) (w : Nat) : (ffs rs w).lookup ("wide" : Str) = some (nd w) := rfl
@[simp] theorem ffs_to (rs : List Nat) (w : Nat) : (ffs rs w).lookup ("to" : Str) = none := rfl
@[simp] theorem ffs_many (rs : List Nat) (w : Nat) : (ffs rs w).lookup ("many" : Str) = none := rfl
@[simp] theorem ffs_size (rs : List Nat) (w : Nat) : (ffs rs w).lookup ("size" : Str) = none := rfl
@[simp] theorem ffs_then (rs : List Nat) (w : Nat) : (ffs rs w).lookup ("then" : Str) = none := rfl
@[simp] theorem ffs_kernel (rs : List Nat) (w : Nat) : (ffs rs w).lookup ("kernel" : Str) = none := rfl
@[simp] theorem ffs_onto (rs : List Nat) (w : Nat) : (ffs rs w).lookup ("onto" : Str) = none := rfl
@[simp] theorem ffs_single (rs : List Nat) (w : Nat) : (ffs rs w).lookup ("single" : Str) = none := rfl
@[simp] theorem ffs_back (rs : List Nat) (w : Nat) : (ffs rs w).lookup ("back" : Str) = none := rfl
@[simp] theorem ffs_least (rs : List Nat) (w : Nat) : (ffs rs w).lookup ("least" : Str) = none := rfl
@[simp] theorem ffs_rows (rs : List Nat) (w : Nat) : (ffs rs w).lookup ("rows" : Str) = none := rfl
@[simp] theorem ffs_part (rs : List Nat) (w : Nat) : (ffs rs w).lookup ("part" : Str) = none := rfl
@[simp] theorem ffs_beside (rs : List Nat) (w : Nat) : (ffs rs w).lookup ("beside" : Str) = none := rfl
structure FOk (rs : List Nat) (w : Nat) : Prop where
  len : rs.length ≤ 12
  wide : w ≤ 12
  lt : ∀ r ∈ rs, r < 2 ^ w
theorem shr_pos {x k : Nat} : decide ((0 : Int) < ((x >>> k : Nat) : Int)) = decide (2 ^ k ≤ x) := by
  rw [Nat.shiftRight_eq_div_pow]
  apply decide_eq_decide.mpr
  constructor
  · intro h
    have h' : 0 < x / 2 ^ k := by omega
    exact Nat.le_of_not_lt fun l => by
      rw [Nat.div_eq_of_lt l] at h'
      omega
  · intro h
    have := Nat.div_pos h (Nat.two_pow_pos k)
    omega
theorem many_ok (S : Sto) (rs : List Nat) (w : Nat) : m_Fold_many [fold rs w] S = .ok (.val (nd rs.length)) S := by
  simp [m_Fold_many]
theorem size_ok (S : Sto) (rs : List Nat) (w : Nat) : m_Fold_size [fold rs w] S = .ok (.val (nd w)) S := by
  simp [m_Fold_size]
end Fb
namespace Mm
open PySem L2
theorem set_last {α : Type} (S : List α) (x y : α) : (S ++ [x]).set S.length y = S ++ [y] := by
  rw [List.set_append_right _ _ (Nat.le_refl _)]
  simp
theorem under_nl (n : Nat) (xs : List Nat) : underL n (nl xs) := by
  rw [nl_eq]
  exact under_ints n _
end Mm
namespace Fb
open PySem L2 Mm Gf
theorem new_ok (S : Sto) {rs : List Nat} {w : Nat} (h : FOk rs w) (a : D) (ha : a = .tup (nl rs) ∨ a = .lst (nl rs)) : popI "Fold" S (m_FoldU_initU [.ref S.length, a, .int w] (S ++ [.ins "Fold" []])) = .ok (fold rs w) S := by
  obtain ⟨s2, e, _⟩ := forM (S := S ++ [.ins "Fold" []]) (g := gN 3) (b := sIf (cOr (cB (eOp iLt (eV 3) (eC (.int 0)))) (cB (eOp iGt (eOp iShr (eV 3) (eV 2)) (eC (.int 0))))) (sRaise "BadFold") sNil)
    nd (fun (_ : Unit) (s : Sl) => [.v (.ref S.length), .v a, .v (nd w), s]) (fun _ _ => ()) (fun _ => True) rs (fun _ s r hr _ => by
      refine ⟨[.v (.ref S.length), .v a, .v (nd w), .v (nd r)], rfl, .v (nd r), ?_, trivial⟩
      have q := shr_pos (x := r) (k := w)
      have : ¬ 2 ^ w ≤ r := Nat.not_le.mpr (h.lt r hr)
      have n0 : ¬ ((r : Int) < 0) := by omega
      have e : ((r : Int) >>> w) = ((r >>> w : Nat) : Int) := rfl
      have e2 : (r : Int) >>> w = 0 := by
        rw [e, Nat.shiftRight_eq_div_pow, Nat.div_eq_of_lt (h.lt r hr)]
        rfl
      simp [n0, e2]) () .no trivial
  have e' : forL (gN 3) (sIf (cOr (cB (eOp iLt (eV 3) (eC (.int 0)))) (cB (eOp iGt (eOp iShr (eV 3) (eV 2)) (eC (.int 0))))) (sRaise "BadFold") sNil) (nl rs) [.v (.ref S.length), .v a, .v (.int w), .no] (S ++ [.ins "Fold" []]) = .nx [.v (.ref S.length), .v a, .v (nd w), s2] (S ++ [.ins "Fold" []]) := e
  have h1 := h.len
  have h2 := h.wide
  have n1 : ¬ ((w : Int) < 0) := by omega
  have n2 : ¬ ((12 : Int) < w) := by omega
  have n3 : ¬ ((12 : Int) < rs.length) := by omega
  have run : m_FoldU_initU [.ref S.length, a, .int w] (S ++ [.ins "Fold" []]) = .ok (.val .non) (S ++ [.ins "Fold" [("lines", .tup (nl rs)), ("wide", nd w)]]) := by
    rcases ha with rfl | rfl <;> (simp [m_FoldU_initU, n1, n2, n3]; rw [e']; simp [set_last, putFD, show ¬ ("lines" : Str) = "wide" by decide])
  rw [run]
  have u : underF S.length [("lines", .tup (nl rs)), ("wide", nd w)] := by
    refine ⟨?_, ?_, trivial⟩
    · unfold D.under
      exact under_nl _ _
    · unfold D.under
      trivial
  unfold popI
  simp only [List.getLast?_append, List.getLast?_singleton, Option.some_or]
  rw [if_pos ⟨rfl, rfl, u⟩]
  rfl
theorem to_ok (S : Sto) {rs : List Nat} {w x : Nat} (h : FOk rs w) (hx : x < 2 ^ rs.length) : m_Fold_to [fold rs w, .int x] S = .ok (.val (nd (app rs x))) S := by
  have p := picked_ok S rs x (by have := h.len; omega) (.tup (nl rs)) (.inl rfl)
  have n0 : ¬ ((x : Int) < 0) := by omega
  have n1 : ¬ (0 < (x : Int) >>> rs.length) := by
    have e : ((x : Int) >>> rs.length) = ((x >>> rs.length : Nat) : Int) := rfl
    rw [e, Nat.shiftRight_eq_div_pow, Nat.div_eq_of_lt hx]
    simp
  simp [m_Fold_to, n0, n1, p]
theorem then_ok (S : Sto) {rs ss : List Nat} {v w : Nat} (h1 : FOk rs v) (h2 : FOk ss w) (hv : ss.length = v) : m_Fold_then [fold rs v, fold ss w] S = .ok (.val (fold (rs.map (app ss)) w)) S := by
  have lc := lcR_map (S := S) (g := gN 2) (tt := cYes) (te := eMeth "Fold" "to" m_Fold_to [] (eV 1) (aCons (eV 2) aNil)) (env := [.v (fold rs v), .v (fold ss w), .no]) (fun _ => true) (fun d => match d with
    | .int i => nd (app ss i.toNat)
    | d => d) (nl rs) (fun d hd => by
      obtain ⟨y, hy, rfl⟩ := mem_nl.mp hd
      refine ⟨[.v (fold rs v), .v (fold ss w), .v (nd y)], rfl, rfl, fun _ => ?_⟩
      have t := to_ok S h2 (x := y) (by rw [hv]; exact h1.lt y hy)
      simp [t])
  rw [List.filter_eq_self.mpr (fun _ _ => rfl), nl_map (g := app ss) (fun y _ => by simp)] at lc
  have F : FOk (rs.map (app ss)) w := ⟨by simpa using h1.len, h2.wide, fun r hr => by
    obtain ⟨q, _, rfl⟩ := List.mem_map.mp hr
    exact app_lt q h2.lt⟩
  have sz := szB_of (n := rs.length) (by have := h1.len; omega)
  have N := new_ok S F (.lst (nl (rs.map (app ss)))) (.inr rfl)
  have lc' := lc
  simp [m_Fold_then, many_ok, size_ok, hv, lc, sz, N]
end Fb
namespace Gf
open Mm
def kerL (rs : List Nat) : List Nat := nsrt (bas (tra rs).2)
def lst (rs : List Nat) (x : Nat) : Option Nat := (trail rs x).map fun m => red m (kerL rs)
def bk (rs : List Nat) (x : Nat) : Nat := (lst rs x).getD 0
def backL (rs : List Nat) (w : Nat) : List Nat := (List.range w).map fun i => bk rs (2 ^ i)
end Gf
namespace Fb
open PySem L2 Mm Gf
theorem rng0 (n : Nat) : rngD 0 n = nl (List.range n) := by
  unfold rngD nl
  apply List.map_congr_left
  intro i _
  show D.int (0 + (i : Int)) = nd i
  rw [Int.zero_add]
theorem rgB_nat {n : Nat} (h : n ≤ 100000) : rgB (n : Int) = true := by
  exact bBnd_iff.mpr (by omega)
theorem onto_ok (S : Sto) {rs : List Nat} {w : Nat} (h : FOk rs w) : m_Fold_onto [fold rs w] S = .ok (.val (.bl (decide ((bas rs).length = w)))) S := by
  have hw := h.wide
  have B := basis_of_ok S (w := w) rs (by omega) h.lt (.tup (nl rs)) (.inl rfl)
  simp [m_Fold_onto, B]
  omega
def od : Option Nat → D
  | some m => nd m
  | none => .non
end Fb
namespace Fb
open PySem L2 Mm Gf
def bx (xs : List Int) (i : Nat) (t s : Int) : Cell := .lst [.lst (xs.map D.int), .int i, .int t, .int s]
def Bx (b : Cell) : Prop := ∃ (xs : List Int) (i : Nat) (t s : Int), b = bx xs i t s ∧ s.natAbs < 2147483549
theorem divB_of {i : Int} {k : Nat} (h0 : 0 < k) (h1 : k < 1073741824) : divB i (k : Int) = true := by
  unfold divB
  rw [decide_eq_true (show (k : Int) ≠ 0 by omega), decide_eq_true (show (k : Int).natAbs < 1073741824 by omega)]
  rfl
theorem fmod_nat (i : Int) {k : Nat} (h : 0 < k) : ∃ r : Nat, i.fmod (k : Int) = (r : Int) ∧ r < k := by
  have h1 : 0 ≤ i.fmod (k : Int) := Int.fmod_nonneg_of_pos i (by omega)
  have h2 : i.fmod (k : Int) < k := Int.fmod_lt_of_pos i (by omega)
  exact ⟨(i.fmod (k : Int)).toNat, by omega, by omega⟩
theorem mulB_l {i j : Int} (h : i.natAbs ≤ 18446744073709551615) : mulB i j = true := by
  unfold mulB
  rw [bBnd_iff.mpr h, Bool.true_or]
theorem powB_nat {i : Int} (h : i.natAbs ≤ 18446744073709551615) (j : Nat) (hj : j ≤ 1000000) : powB i (j : Int) = true := powB_of (by omega) (by omega) (by omega)
@[simp] theorem ixN41 : ixN 4 1 = some 1 := rfl
@[simp] theorem ixN42 : ixN 4 2 = some 2 := rfl
@[simp] theorem ixN43 : ixN 4 3 = some 3 := rfl
noncomputable def takeTail : MS := sSeq (sIf (cB (eOp iGe (eV 3) (eOp iPow (eC (.int 10)) (eC (.int 18))))) (sSeq (sPut 0 (eC (.int 2)) (eOp iDiv (eV 3) (eV 1)))
    (sRet (eOp iMod (eV 3) (eV 1)))) sNil)
    (sSeq (sAsg (eOp fIx (eV 0) (eC (.int 3))) (gN 4))
    (sSeq (sPut 0 (eC (.int 3)) (eOp iMod (eOp dAdd (eOp dAdd (eOp dAdd (eOp iPow (eV 4) (eC (.int 3))) (eOp iMul (eC (.int 69621)) (eV 4))) (eOp iMul (eC (.int 40693)) (eOp iMod (eV 3) (eC (.int 2147483549))))) (eC (.int 17))) (eC (.int 2147483549))))
    (sRet (eOp iMod (eOp iDiv (eOp fIx (eV 0) (eC (.int 3))) (eC (.int 64))) (eV 1)))))
theorem m_take_eq : m__law_take = mFn 5 (sSeq (sIf (cB (eOp iGt (eOp fIx (eV 0) (eC (.int 2))) (eC (.int 0)))) (sSeq (sAsg (eOp fIx (eV 0) (eC (.int 2))) (gN 2))
    (sSeq (sPut 0 (eC (.int 2)) (eOp iDiv (eV 2) (eV 1)))
    (sRet (eOp iMod (eV 2) (eV 1))))) sNil)
    (sSeq (sAsg (eC (.int 0)) (gN 3))
    (sSeq (sIf (cB (eOp iLt (eOp fIx (eV 0) (eC (.int 1))) (eCB fLen (aCons (eOp fIx (eV 0) (eC (.int 0))) aNil)))) (sSeq (sAsg (eOp fIx (eOp fIx (eV 0) (eC (.int 0))) (eOp fIx (eV 0) (eC (.int 1)))) (gN 3))
    (sAugC (eV 0) (eC (.int 1)) (fun i j => i + j) (eC (.int 1)))) sNil) takeTail))) := rfl
theorem pow1018 : powB 10 18 = true := powB_of (by omega) (by omega) (by decide)
theorem tail_ok {S : Sto} {n : Nat} {xs : List Int} {i : Nat} {t s : Int} (hS : S[n]? = some (bx xs i t s)) (hs : s.natAbs < 2147483549) {k : Nat} (h0 : 0 < k) (h1 : k < 1073741824) (c : Int) :
    ∃ b' r, takeTail [.v (.ref n), .v (.int k), .no, .v (.int c), .no] S = .rt (.val (nd r)) (S.set n b') ∧ Bx b' ∧ r < k := by
  have hn : n < S.length := (List.getElem?_eq_some_iff.mp hS).1
  have kz' : ¬ k = 0 := by omega
  have dv := fun i : Int => divB_of (i := i) h0 h1
  have dv64 := fun i : Int => divB_of (i := i) (k := 64) (by decide) (by decide)
  have p18 := pow1018
  by_cases hc : (10 : Int) ^ 18 ≤ c
  · obtain ⟨r, e1, e2⟩ := fmod_nat c h0
    refine ⟨bx xs i (c.fdiv k) s, r, ?_, ⟨xs, i, _, s, rfl, hs⟩, e2⟩
    have hc' : (1000000000000000000 : Int) ≤ c := hc
    simp [takeTail, hS, bx, p18, hc', dv, kz', e1]
  · have hc' : ¬ (1000000000000000000 : Int) ≤ c := hc
    obtain ⟨q, q1, q2⟩ := fmod_nat c (k := 2147483549) (by decide)
    have pw := powB_nat (i := s) (by omega) 3 (by decide)
    have m1 := mulB_l (i := 69621) (j := s) (by decide)
    have m2 := fun j : Int => mulB_l (i := 40693) (j := j) (by decide)
    obtain ⟨s', s1, s2⟩ := fmod_nat (s ^ 3 + 69621 * s + 40693 * c.fmod 2147483549 + 17) (k := 2147483549) (by decide)
    obtain ⟨r, e1, e2⟩ := fmod_nat ((s' : Int).fdiv 64) h0
    refine ⟨bx xs i t s', r, ?_, ⟨xs, i, t, s', rfl, by omega⟩, e2⟩
    have s1' : (s ^ 3 + 69621 * s + 40693 * c.fmod 2147483549 + 17).fmod 2147483549 = (s' : Int) := s1
    have pw' : powB s 3 = true := pw
    have d64 : ∀ i : Int, divB i 64 = true := dv64
    have gs : ∀ x, (S.set n x)[n]? = some x := fun x => List.getElem?_set_self hn
    simp [takeTail, hS, bx, p18, hc', dv, d64, kz', pw', m1, m2, s1', e1, gs]
theorem take_ok {S : Sto} {n : Nat} {b : Cell} (hS : S[n]? = some b) (hb : Bx b) {k : Nat} (h0 : 0 < k) (h1 : k < 1073741824) : ∃ b' r, m__law_take [.ref n, .int k] S = .ok (.val (nd r)) (S.set n b') ∧ Bx b' ∧ r < k := by
  obtain ⟨xs, i, t, s, rfl, hs⟩ := hb
  have hn : n < S.length := (List.getElem?_eq_some_iff.mp hS).1
  have kz' : ¬ k = 0 := by omega
  have dv := fun i : Int => divB_of (i := i) h0 h1
  rw [m_take_eq]
  by_cases ht : 0 < t
  · obtain ⟨r, e1, e2⟩ := fmod_nat t h0
    refine ⟨bx xs i (t.fdiv k) s, r, ?_, ⟨xs, i, _, s, rfl, hs⟩, e2⟩
    simp [hS, bx, ht, dv, kz', e1]
  · by_cases hi : i < xs.length
    · have e : atI (xs.map D.int) (i : Int) = some (.int (xs[i])) := by
        rw [Mm.atI_nat]
        simp [hi]
      obtain ⟨b', r, h3, h4, h5⟩ := tail_ok (S := S.set n (bx xs (i + 1) t s)) (n := n) (List.getElem?_set_self hn) hs h0 h1 xs[i]
      refine ⟨b', r, ?_, h4, h5⟩
      rw [List.set_set] at h3
      have h3' : takeTail [.v (.ref n), .v (.int k), .no, .v (.int xs[i]), .no] (S.set n (.lst [.lst (xs.map D.int), .int ((i : Int) + 1), .int t, .int s])) = _ := h3
      simp [hS, bx, hi, e, ht]
      rw [h3']
    · obtain ⟨b', r, h3, h4, h5⟩ := tail_ok hS hs h0 h1 0
      refine ⟨b', r, ?_, h4, h5⟩
      simp [hS, bx, hi, ht]
      rw [h3]
theorem cut_map (ns : List Int) (lo hi : Option Int) : ∃ xs : List Int, cutD (ns.map D.int) lo hi = xs.map D.int := by
  unfold cutD
  exact ⟨(ns.drop (HT.sIx (ns.map D.int).length 0 lo)).take (HT.sIx (ns.map D.int).length (ns.map D.int).length hi - HT.sIx (ns.map D.int).length 0 lo), by rw [List.map_take, List.map_drop]⟩
theorem box_ok (ns : List Int) (S : Sto) : ∃ b, m__law_box [.scr ns] S = .ok (.own b) S ∧ Bx b := by
  have s4 := szB_of (n := 4) (by omega)
  obtain ⟨xs, e⟩ := cut_map ns none (some 63)
  refine ⟨bx xs 0 0 41, ?_, ⟨_, 0, 0, 41, rfl, by decide⟩⟩
  simp [m__law_box, s4, bx, e]
theorem insert_perm (xs : List Nat) (k x : Nat) : (xs.take k ++ [x] ++ xs.drop k).Perm (x :: xs) := by
  rw [List.append_assoc]
  have := List.perm_middle (l₁ := xs.take k) (l₂ := xs.drop k) (a := x)
  simpa using this
end Fb
namespace Gf
theorem all_row {w n : Nat} {ls : List Nat} {o j : Nat} (hl : ls.length = n) (ho : o < n) (hj : j < n) (ne : o ≠ j) (a : All w ls) : All w (ls.set o (ls.getD o 0 ^^^ ls.getD j 0)) := fun x hx => by
  refine .sub (fun b hb => ?_) (a x hx)
  obtain ⟨i, hi⟩ := List.getElem?_of_mem hb
  have lo : o < ls.length := by omega
  have lj : j < ls.length := by omega
  have mj : Sp (ls.set o (ls.getD o 0 ^^^ ls.getD j 0)) (ls.getD j 0) := .mem (List.mem_of_getElem? (i := j) (by
    rw [List.getElem?_set_ne ne]
    simp [List.getD_eq_getElem?_getD, lj]))
  by_cases e : o = i
  · subst e
    have mo : Sp (ls.set o (ls.getD o 0 ^^^ ls.getD j 0)) (ls.getD o 0 ^^^ ls.getD j 0) := .mem (List.mem_of_getElem? (i := o) (List.getElem?_set_self lo))
    have := mo.xor mj
    have eb : ls.getD o 0 = b := by rw [List.getD_eq_getElem?_getD, hi]; rfl
    rw [xor_cancel_right] at this
    rw [← eb]
    exact this
  · exact .mem (List.mem_of_getElem? (i := i) (by rw [List.getElem?_set_ne e]; exact hi))
def phi (o f l : Nat) : Nat := l ^^^ if l.testBit o then 2 ^ f else 0
theorem phi_bit (o f l i : Nat) : (phi o f l).testBit i = (l.testBit i ^^ (l.testBit o && decide (f = i))) := by
  unfold phi
  rw [Nat.testBit_xor]
  congr 1
  split
  · rename_i z
    rw [z, Nat.testBit_two_pow]
    simp
  · rename_i z
    simp at z
    simp [z]
theorem phi_zero (o f : Nat) : phi o f 0 = 0 := by simp [phi]
theorem phi_xor (o f x y : Nat) : phi o f (x ^^^ y) = phi o f x ^^^ phi o f y := Nat.eq_of_testBit_eq fun i => by
  simp only [phi_bit, Nat.testBit_xor]
  cases x.testBit i <;> cases y.testBit i <;> cases x.testBit o <;> cases y.testBit o <;> cases decide (f = i) <;> rfl
theorem phi_phi {o f : Nat} (h : f ≠ o) (x : Nat) : phi o f (phi o f x) = x := Nat.eq_of_testBit_eq fun i => by
  simp only [phi_bit]
  simp [h]
theorem phi_lt {o f w l : Nat} (hl : l < 2 ^ w) (hf : f < w) : phi o f l < 2 ^ w := by
  unfold phi
  refine Nat.xor_lt_two_pow hl ?_
  split
  · exact Nat.pow_lt_pow_right (by decide) hf
  · exact Nat.two_pow_pos w
theorem all_col {w : Nat} {ls : List Nat} {o f : Nat} (hf : f < w) (ne : f ≠ o) (a : All w ls) : All w (ls.map (phi o f)) := fun x hx => by
  have := Sp.image (phi o f) (phi_zero o f) (phi_xor o f) (a (phi o f x) (phi_lt hx hf))
  rwa [phi_phi ne] at this
structure Lin (n w : Nat) (ls : List Nat) : Prop where
  len : ls.length = n
  lt : ∀ l ∈ ls, l < 2 ^ w
  all : All w ls
theorem Lin.row {n w : Nat} {ls : List Nat} {o j : Nat} (h : Lin n w ls) (ho : o < n) (hj : j < n) (ne : o ≠ j) : Lin n w (ls.set o (ls.getD o 0 ^^^ ls.getD j 0)) where
  len := by rw [List.length_set]; exact h.len
  lt := fun l hl => by
    rcases List.mem_or_eq_of_mem_set hl with hl | e
    · exact h.lt l hl
    · rw [e]
      have lo : o < ls.length := by have := h.len; omega
      have lj : j < ls.length := by have := h.len; omega
      refine Nat.xor_lt_two_pow (h.lt _ ?_) (h.lt _ ?_)
      · simp [List.getD_eq_getElem?_getD, lo]
      · simp [List.getD_eq_getElem?_getD, lj]
  all := all_row h.len ho hj ne h.all
theorem Lin.col {n w : Nat} {ls : List Nat} {o f : Nat} (h : Lin n w ls) (hf : f < w) (ne : f ≠ o) : Lin n w (ls.map (phi o f)) where
  len := by rw [List.length_map]; exact h.len
  lt := fun l hl => by
    obtain ⟨x, hx, rfl⟩ := List.mem_map.mp hl
    exact phi_lt (h.lt x hx) hf
  all := all_col hf ne h.all
theorem Lin.perm {n w : Nat} {ls ks : List Nat} (p : ks.Perm ls) (h : Lin n w ls) : Lin n w ks where
  len := p.length_eq.trans h.len
  lt := fun l hl => h.lt l (p.mem_iff.mp hl)
  all := fun x hx => (Sp.perm p).mpr (h.all x hx)
theorem Lin.plain {n w : Nat} {ys : List Nat} (hl : ys.length = n - w) (hw : w ≤ n) (lt : ∀ y ∈ ys, y < 2 ^ w) : Lin n w (plain w ++ ys) where
  len := by rw [List.length_append, plain_len]; omega
  lt := fun l h => by
    rcases List.mem_append.mp h with h | h
    · exact plain_lt l h
    · exact lt l h
  all := fun x hx => (plain_all w x hx).mono fun b hb => List.mem_append_left _ hb
end Gf
namespace Fb
open PySem L2 Mm Gf
theorem mod_ne {o r n : Nat} (ho : o < n) (hr : r < n - 1) : (o + 1 + r) % n < n ∧ o ≠ (o + 1 + r) % n := by
  refine ⟨Nat.mod_lt _ (by omega), ?_⟩
  by_cases h : o + 1 + r < n
  · rw [Nat.mod_eq_of_lt h]
    omega
  · have : (o + 1 + r) % n = o + 1 + r - n := by
      rw [Nat.mod_eq_sub_mod (by omega), Nat.mod_eq_of_lt (by omega)]
    omega
theorem fmod_natnat (a b : Nat) : (a : Int).fmod (b : Int) = ((a % b : Nat) : Int) := by
  rw [Int.fmod_eq_emod_of_nonneg _ (by omega)]
  rfl
theorem nl_get {xs : List Nat} {i : Nat} (h : i < xs.length) : atI (nl xs) (i : Int) = some (nd (xs.getD i 0)) := by
  rw [Mm.atI_nat]
  simp [nl, h]
theorem nl_set (xs : List Nat) (i x : Nat) : (nl xs).set i (nd x) = nl (xs.set i x) := by simp [nl, List.map_set]
noncomputable def lBody1 : MS := sSeq (sAsg (eCall m__law_take [] (aCons (eV 0) (aCons (eV 1) aNil))) (gN 5))
    (sSeq (sAsg (eOp dAdd (eOp dAdd (eV 5) (eC (.int 1))) (eCall m__law_take [] (aCons (eV 0) (aCons (eOp iSub (eV 1) (eC (.int 1))) aNil)))) (gN 6))
    (sPut 3 (eV 5) (eOp iXor (eIxA 3 (eV 5)) (eIxA 3 (eOp iMod (eV 6) (eV 1))))))
noncomputable def lBody2 : MS := sSeq (sAsg (eCall m__law_take [] (aCons (eV 0) (aCons (eV 2) aNil))) (gN 5))
    (sSeq (sAsg (eOp iMod (eOp dAdd (eOp dAdd (eV 5) (eC (.int 1))) (eCall m__law_take [] (aCons (eV 0) (aCons (eOp iSub (eV 2) (eC (.int 1))) aNil)))) (eV 2)) (gN 6))
    (sFrz 3 (sOwn 3 (fLc (itL (eV 3)) (gN 8) cYes (eOp iXor (eV 8) (eOp iShl (eOp iAnd (eOp iShr (eV 8) (eV 5)) (eC (.int 1))) (eV 6))) [8]))))
theorem phi_int (l o f : Nat) : ((l : Int) >>> o).toNat &&& 1 = if l.testBit o then 1 else 0 := by
  have e : ((l : Int) >>> o) = ((l >>> o : Nat) : Int) := rfl
  rw [e, Int.toNat_natCast, Nat.and_one_is_mod, Nat.testBit_eq_decide_div_mod_eq, Nat.shiftRight_eq_div_pow]
  simp
  split <;> omega
theorem band_one (l o : Nat) : Builtin.bitAnd ((l : Int) >>> o) 1 = ((if l.testBit o then 1 else 0 : Nat) : Int) := by
  have e : ((l : Int) >>> o) = ((l >>> o : Nat) : Int) := rfl
  have : Builtin.bitAnd (((l >>> o : Nat) : Int)) 1 = ((l >>> o &&& 1 : Nat) : Int) := band_nat (l >>> o) 1
  rw [e, this, ← phi_int l o 0, e, Int.toNat_natCast]
theorem phi_xorI (l o f : Nat) : Builtin.bitXor (l : Int) (((if l.testBit o then 1 else 0 : Nat) : Int) * 2 ^ f) = ((phi o f l : Nat) : Int) := by
  unfold phi
  split
  · have : ((1 : Nat) : Int) * 2 ^ f = ((2 ^ f : Nat) : Int) := by simp
    rw [this, bxor_nat]
  · have : ((0 : Nat) : Int) * 2 ^ f = ((0 : Nat) : Int) := by simp
    rw [this, bxor_nat]
end Fb
namespace Fb
open PySem L2 Mm Gf
theorem m_lines_eq : m__law_lines = mFn 9 (sSeq (sOwn 3 (fLc (itR1 (aCons (eV 2) aNil)) (gN 7) cYes (eOp iShl (eC (.int 1)) (eV 7)) [7]))
    (sFrz 3 (sSeq (sOwn 3 (fCall m__law_shuffled [] (aCons (eV 0) (aCons (eOp dAdd (eV 3) (eCall m__law_numbers [] (aCons (eV 0) (aCons (eOp iSub (eV 1) (eV 2)) (aCons (eV 2) aNil))))) aNil))))
    (sSeq (sFor (itR1 (aCons (eOp iMul (eCall m__law_take [] (aCons (eV 0) (aCons (eC (.int 7)) aNil))) (eCB fInt (aCons (eOp iGt (eV 1) (eC (.int 1))) aNil))) aNil)) (gN 4) lBody1)
    (sSeq (sFor (itR1 (aCons (eOp iMul (eCall m__law_take [] (aCons (eV 0) (aCons (eC (.int 4)) aNil))) (eCB fInt (aCons (eOp iGt (eV 2) (eC (.int 1))) aNil))) aNil)) (gN 4) lBody2)
    (sFrz 3 (sRet (eCB fTupOf (aCons (eV 3) aNil))))))))) := rfl
abbrev lEnv (n w : Nat) (ls : List Nat) (s4 s5 s6 : Sl) : Envr := [.v (.ref 0), .v (nd n), .v (nd w), .o (.lst (nl ls)), s4, s5, s6, .no, .no]
theorem cnt (r x : Nat) : (r : Int) * (if decide ((1 : Int) < (x : Int)) = true then 1 else 0) = ((r * (if 1 < x then 1 else 0) : Nat) : Int) := by
  by_cases h : 1 < x
  · have : (1 : Int) < (x : Int) := by omega
    simp [h, this]
  · have : ¬ (1 : Int) < (x : Int) := by omega
    simp [h, this]
theorem plain_lc (S : Sto) (n w : Nat) (hw : w ≤ 1000) : lcR (gN 7) cYes (eOp iShl (eC (.int 1)) (eV 7)) [.v (.ref 0), .v (nd n), .v (nd w), .no, .no, .no, .no, .no, .no] (nl (List.range w)) S = .ok (nl (plain w)) S := by
  have lc := lcR_map (S := S) (g := gN 7) (tt := cYes) (te := eOp iShl (eC (.int 1)) (eV 7)) (env := [.v (.ref 0), .v (nd n), .v (nd w), .no, .no, .no, .no, .no, .no]) (fun _ => true) (fun d => match d with
    | .int i => nd (2 ^ i.toNat)
    | d => d) (nl (List.range w)) (fun d hd => by
      obtain ⟨i, hi, rfl⟩ := mem_nl.mp hd
      have hi := List.mem_range.mp hi
      have pw := powB_nat (i := 1) (by decide) i (by omega)
      refine ⟨[.v (.ref 0), .v (nd n), .v (nd w), .no, .no, .no, .no, .v (nd i), .no], rfl, rfl, fun _ => ?_⟩
      simp [pw])
  rw [List.filter_eq_self.mpr (fun _ _ => rfl), nl_map (g := (2 ^ ·)) (fun y _ => by simp)] at lc
  exact lc
end Fb
namespace Mm
open PySem L2
@[simp] theorem eIsT_eq (me : ME) (m : MA) (env : Envr) (S : Sto) : eIsT me m env S = (me env S).bind fun d S1 => (m env S1).bind fun ds S2 => match d.tyN, tysOf ds with
  | some t, some ns => if szB ds.length then opt ((kitL t ns).map D.bl) S2 else .stuck
  | _, _ => .stuck := rfl
@[simp] theorem eChain_eq (f g : Sto → D → D → Option D) (ma mb mc : ME) (env : Envr) (S : Sto) : eChain f g ma mb mc env S = (ma env S).bind fun x S1 => (mb env S1).bind fun y S2 => match f S2 x y with
  | some (.bl true) => (mc env S2).bind fun z S3 => opt (g S3 y z) S3
  | some (.bl false) => .ok (.bl false) S2
  | _ => .stuck := rfl
@[simp] theorem fMin2_eq (S : Sto) (i j : Int) : fMin2 S [.int i, .int j] = some (.int (if j < i then j else i)) := rfl
@[simp] theorem fMax2_eq (S : Sto) (i j : Int) : fMax2 S [.int i, .int j] = some (.int (if j > i then j else i)) := rfl
@[simp] theorem tyN_non : D.tyN .non = some "NoneType" := rfl
@[simp] theorem tyN_bl (b : Bool) : D.tyN (.bl b) = some "bool" := rfl
@[simp] theorem tyN_int (b : Int) : D.tyN (.int b) = some "int" := rfl
@[simp] theorem tyN_str (b : Str) : D.tyN (.str b) = some "str" := rfl
@[simp] theorem tyN_lst (b : List D) : D.tyN (.lst b) = some "list" := rfl
@[simp] theorem tyN_tup (b : List D) : D.tyN (.tup b) = some "tuple" := rfl
end Mm
namespace Fb
open PySem L2 Mm Gf
noncomputable def m__law_images : MFn := mFn 4 (sSeq (sAsg (mFrz (fLst (aCons (eC (.int 0)) aNil))) (gN 1))
    (sSeq (sFor (itL (eV 0)) (gN 2) (sAsg (eOp dAdd (eV 1) (mFrz (fLc (itL (eV 1)) (gN 3) cYes (eOp iXor (eV 3) (eV 2)) [3]))) (gN 1)))
    (sRet (eV 1))))
noncomputable def m__law_of : MFn := mFn 2 (sRet (eOp fIx (eV 1) (eCall m__law_take [] (aCons (eV 0) (aCons (eCB fLen (aCons (eV 1) aNil)) aNil)))))
end Fb
namespace Mm
open PySem L2
theorem lc_gen {β : Type} {g : MG} {tt : MT} {te : ME} {env : Envr} {S : Sto} (ψ : β → D) (p : β → Bool) (φ : β → D) : ∀ (xs : List β), (∀ y ∈ xs, ∃ e1, g (ψ y) env = some e1 ∧ tt e1 S = .ok (p y) S ∧ (p y = true → te e1 S = .ok (φ y) S)) → lcR g tt te env (xs.map ψ) S = .ok ((xs.filter p).map φ) S
  | [], _ => rfl
  | y :: xs, h => by
    obtain ⟨e1, h1, h2, h3⟩ := h y List.mem_cons_self
    have ih := lc_gen (g := g) (tt := tt) (te := te) (env := env) (S := S) ψ p φ xs fun z hz => h z (List.mem_cons_of_mem _ hz)
    rw [List.map_cons, lcR, h1]
    simp only [h2]
    cases hp : p y with
    | true =>
      simp only [h3 hp, ih, bind_ok']
      rw [List.filter_cons_of_pos hp, List.map_cons]
    | false =>
      simp only [ih]
      rw [List.filter_cons_of_neg (by simp [hp])]
theorem lc_all {β : Type} {g : MG} {te : ME} {env : Envr} {S : Sto} (ψ φ : β → D) (xs : List β) (h : ∀ y ∈ xs, ∃ e1, g (ψ y) env = some e1 ∧ te e1 S = .ok (φ y) S) : lcR g cYes te env (xs.map ψ) S = .ok (xs.map φ) S := by
  have := lc_gen (g := g) (tt := cYes) (te := te) (env := env) (S := S) ψ (fun _ => true) φ xs fun y hy => by
    obtain ⟨e1, h1, h2⟩ := h y hy
    exact ⟨e1, h1, rfl, fun _ => h2⟩
  rwa [List.filter_eq_self.mpr (fun _ _ => rfl)] at this
end Mm
namespace Fb
open PySem L2 Mm Gf
theorem lc_nl {te : ME} {k : Nat} {env : Envr} {S : Sto} (f : Nat → Nat) (xs : List Nat) (h : ∀ y ∈ xs, te (env.set k (.v (nd y))) S = .ok (nd (f y)) S) : lcR (gN k) cYes te env (nl xs) S = .ok (nl (xs.map f)) S := by
  have := lc_all (g := gN k) (te := te) (env := env) (S := S) nd (fun y => nd (f y)) xs fun y hy => ⟨_, rfl, h y hy⟩
  unfold nl
  rw [this, List.map_map]
  rfl
theorem lc_nlp {tt : MT} {te : ME} {k : Nat} {env : Envr} {S : Sto} (p : Nat → Bool) (f : Nat → Nat) (xs : List Nat) (h : ∀ y ∈ xs, tt (env.set k (.v (nd y))) S = .ok (p y) S ∧ (p y = true → te (env.set k (.v (nd y))) S = .ok (nd (f y)) S)) : lcR (gN k) tt te env (nl xs) S = .ok (nl ((xs.filter p).map f)) S := by
  have := lc_gen (g := gN k) (tt := tt) (te := te) (env := env) (S := S) nd p (fun y => nd (f y)) xs fun y hy => ⟨_, rfl, (h y hy).1, (h y hy).2⟩
  unfold nl
  rw [this, List.map_map]
  rfl
@[simp] theorem tysOf_lt : tysOf [.ty "list", .ty "tuple"] = some ["list", "tuple"] := rfl
@[simp] theorem fAll_eq (S : Sto) (bs : List Bool) : fAll S [.lst (bs.map D.bl)] = some (.bl (bs.all id)) := by
  show Option.map _ (blsOf (bs.map D.bl)) = _
  rw [blsOf_map]
  rfl
@[simp] theorem isN_bl (b : Bool) : D.isN (.bl b) = false := rfl
@[simp] theorem isN_str (b : Str) : D.isN (.str b) = false := rfl
@[simp] theorem isN_lst (b : List D) : D.isN (.lst b) = false := rfl
@[simp] theorem isN_tup (b : List D) : D.isN (.tup b) = false := rfl
@[simp] theorem isN_ins (c : Str) (b : List (Str × D)) : D.isN (.ins c b) = false := rfl
theorem images_ok (S : Sto) (B : List Nat) (hl : B.length ≤ 16) (a : D) (ha : a = .tup (nl B) ∨ a = .lst (nl B)) : m__law_images [a] S = .ok (.val (.lst (nl (spl B)))) S := by
  obtain ⟨s2, e, _⟩ := forR (S := S) (g := gN 2) (b := sAsg (eOp dAdd (eV 1) (mFrz (fLc (itL (eV 1)) (gN 3) cYes (eOp iXor (eV 3) (eV 2)) [3]))) (gN 1))
    nd (fun (s : List Nat) (q : Sl) => [.v a, .v (.lst (nl s)), q, .no]) (fun s b => s ++ s.map (· ^^^ b)) (fun r s => s.length * 2 ^ r.length ≤ 65536) B (fun s q b r h => by
      refine ⟨[.v a, .v (.lst (nl s)), .v (nd b), .no], rfl, .v (nd b), ?_, ?_⟩
      · have lc := lc_nl (te := eOp iXor (eV 3) (eV 2)) (k := 3) (env := [.v a, .v (.lst (nl s)), .v (nd b), .no]) (S := S) (· ^^^ b) s fun y _ => by simp
        rw [List.length_cons, Nat.pow_succ] at h
        have h1 : s.length * 2 ≤ s.length * (2 ^ r.length * 2) := Nat.mul_le_mul_left _ (by have := Nat.two_pow_pos r.length; omega)
        have z1 := szB_of (n := s.length) (by omega)
        have z2 := szB_of (n := s.length + s.length) (by omega)
        simp [lc, z1, z2]
      · rw [List.length_cons, Nat.pow_succ] at h
        rw [List.length_append, List.length_map]
        have : (s.length + s.length) * 2 ^ r.length = s.length * (2 ^ r.length * 2) := by
          rw [← Nat.mul_two, Nat.mul_assoc, Nat.mul_comm 2]
        omega) [0] .no (by
          have : 2 ^ B.length ≤ 2 ^ 16 := Nat.pow_le_pow_right (by decide) hl
          simp
          omega)
  have e' : forL (gN 2) (sAsg (eOp dAdd (eV 1) (mFrz (fLc (itL (eV 1)) (gN 3) cYes (eOp iXor (eV 3) (eV 2)) [3]))) (gN 1)) (nl B) [.v a, .v (.lst [.int 0]), .no, .no] S = .nx [.v a, .v (.lst (nl (spl B))), s2, .no] S := e
  have s0 := szB_of (n := 1) (by omega)
  rcases ha with rfl | rfl <;> simp [m__law_images, s0, e']
end Fb
namespace Gf
theorem spl_app_go : ∀ (B : List Nat) (f : Nat → Nat) (n : Nat), B.foldl (fun s b => s ++ s.map (· ^^^ b)) ((List.range (2 ^ n)).map f) = (List.range (2 ^ (n + B.length))).map fun x => f (x % 2 ^ n) ^^^ app B (x / 2 ^ n)
  | [], f, n => by
    simp only [List.foldl_nil, List.length_nil, Nat.add_zero, app_nil, Nat.xor_zero]
    refine List.map_congr_left fun x hx => ?_
    rw [Nat.mod_eq_of_lt (List.mem_range.mp hx)]
  | b :: B, f, n => by
    have e : (List.range (2 ^ n)).map f ++ ((List.range (2 ^ n)).map f).map (· ^^^ b) = (List.range (2 ^ (n + 1))).map fun x => f (x % 2 ^ n) ^^^ if x.testBit n then b else 0 := by
      rw [Nat.pow_succ, Nat.mul_two, List.range_add, List.map_append, List.map_map, List.map_map]
      congr 1
      · refine List.map_congr_left fun x hx => ?_
        have hx := List.mem_range.mp hx
        rw [Nat.mod_eq_of_lt hx, Nat.testBit_lt_two_pow hx]
        simp
      · refine List.map_congr_left fun x hx => ?_
        have hx := List.mem_range.mp hx
        have h1 : (2 ^ n + x) % 2 ^ n = x := by rw [Nat.add_mod_left, Nat.mod_eq_of_lt hx]
        have h2 : (2 ^ n + x).testBit n = true := by
          rw [Nat.testBit_two_pow_add_eq, Nat.testBit_lt_two_pow hx]
          rfl
        simp only [Function.comp, h1, h2, if_true]
    rw [List.foldl_cons, e, spl_app_go B _ (n + 1), List.length_cons, Nat.add_right_comm, ← Nat.add_assoc]
    refine List.map_congr_left fun x _ => ?_
    have h1 : x % 2 ^ (n + 1) % 2 ^ n = x % 2 ^ n := Nat.mod_mod_of_dvd _ ⟨2, Nat.pow_succ ..⟩
    have h2 : (x % 2 ^ (n + 1)).testBit n = x.testBit n := by rw [Nat.testBit_mod_two_pow]; simp
    have h3 : (x / 2 ^ n).testBit 0 = x.testBit n := by rw [Nat.testBit_div_two_pow]; simp
    have h4 : x / 2 ^ n / 2 = x / 2 ^ (n + 1) := by rw [Nat.div_div_eq_div_mul, Nat.pow_succ]
    rw [h1, h2, app_cons, h3, h4, Nat.xor_assoc]
theorem spl_app (B : List Nat) : spl B = (List.range (2 ^ B.length)).map (app B) := by
  have := spl_app_go B (fun _ => 0) 0
  simp at this
  unfold spl
  rw [this]
end Gf
namespace Fb
open PySem L2 Mm Gf
theorem shaped_str {x : Str} (h : PyData.strOk x = true) : SeqAt.shaped (.str x) = true := by simp [SeqAt.shaped, PyData.canLay0, PyData.depth, h]
theorem fEq_str (S : Sto) {x y : Str} (hx : PyData.strOk x = true) (hy : PyData.strOk y = true) : fEq S (.str x) (.str y) = some (.bl (decide (x = y))) := by
  simp [fEq, D.py, shaped_str hx, shaped_str hy, PyData.eqv]
  rfl
theorem fNe_str (S : Sto) {x y : Str} (hx : PyData.strOk x = true) (hy : PyData.strOk y = true) : fNe S (.str x) (.str y) = some (.bl (!decide (x = y))) := by
  simp [fNe, D.py, shaped_str hx, shaped_str hy, PyData.eqv]
  rfl
theorem flc_nl {mi : MI} {te : ME} {k : Nat} {vs : List Nat} {env : Envr} {S : Sto} (f : Nat → Nat) (xs : List Nat) (h1 : mi env S = .ok (nl xs) S) (hz : xs.length ≤ 100000) (h2 : ∀ y ∈ xs, te ((wipeE env vs).set k (.v (nd y))) S = .ok (nd (f y)) S) : fLc mi (gN k) cYes te vs env S = .ok (.lst (nl (xs.map f))) S := by
  have lc := lc_nl f xs h2
  rw [fLc_eq, h1, bind_ok', lc, bind_ok', fin_eq, if_pos (szB_of (by simpa using hz))]
theorem flc_nlp {mi : MI} {tt : MT} {te : ME} {k : Nat} {vs : List Nat} {env : Envr} {S : Sto} (p : Nat → Bool) (f : Nat → Nat) (xs : List Nat) (h1 : mi env S = .ok (nl xs) S) (hz : xs.length ≤ 100000) (h2 : ∀ y ∈ xs, tt ((wipeE env vs).set k (.v (nd y))) S = .ok (p y) S ∧ (p y = true → te ((wipeE env vs).set k (.v (nd y))) S = .ok (nd (f y)) S)) : fLc mi (gN k) tt te vs env S = .ok (.lst (nl ((xs.filter p).map f))) S := by
  have lc := lc_nlp p f xs h2
  have l := List.length_filter_le p xs
  rw [fLc_eq, h1, bind_ok', lc, bind_ok', fin_eq, if_pos (szB_of (by simp; omega))]
theorem flc_of {β : Type} {mi : MI} {te : ME} {k : Nat} {vs : List Nat} {env : Envr} {S : Sto} (ψ φ : β → D) (xs : List β) (h1 : mi env S = .ok (xs.map ψ) S) (hz : xs.length ≤ 100000) (h2 : ∀ y ∈ xs, te ((wipeE env vs).set k (.v (ψ y))) S = .ok (φ y) S) : fLc mi (gN k) cYes te vs env S = .ok (.lst (xs.map φ)) S := by
  have lc := lc_all (g := gN k) (te := te) (env := wipeE env vs) (S := S) ψ φ xs fun y hy => ⟨_, rfl, h2 y hy⟩
  rw [fLc_eq, h1, bind_ok', lc, bind_ok', fin_eq, if_pos (szB_of (by simpa using hz))]
theorem itR1_nat {m : MA} {env : Envr} {S : Sto} {n : Nat} (h : m env S = .ok [.int n] S) (hn : n ≤ 100000) : itR1 m env S = .ok (nl (List.range n)) S := by
  rw [itR1_eq, h]
  simp [rgB_nat hn, rng0]
end Fb
namespace Gf
open Fb Mm
def up (k x : Nat) : Nat := x * 2 ^ k
end Gf
namespace Fb
open PySem L2 Mm Gf
theorem insert_permG {α : Type} (xs : List α) (k : Nat) (x : α) : (xs.take k ++ [x] ++ xs.drop k).Perm (x :: xs) := by
  rw [List.append_assoc]
  have := List.perm_middle (l₁ := xs.take k) (l₂ := xs.drop k) (a := x)
  simpa using this
end Fb
namespace Fb
open PySem L2 Mm Gf
theorem rows_ok (S : Sto) (rs : List Nat) (w : Nat) : m_Fold_rows [fold rs w] S = .ok (.val (.tup (nl rs))) S := by
  simp [m_Fold_rows]
theorem fAny_eq (S : Sto) (bs : List Bool) : fAny S [.lst (bs.map D.bl)] = some (.bl (bs.any id)) := by
  show (blsOf (bs.map D.bl)).map _ = _
  rw [blsOf_map]
  rfl
end Fb
namespace Mm
open PySem PySem.Spec PyProof.Rows L2 PpSet
section
variable {X : Cx} {Y : Gam} {W : WX} {e a b c tg iter elt : Expr} {es rest ifs : List Expr} {ta tb te : TE} {tt tu : TT} {ma mb me : ME} {mt mu : MT} {mf : MF} {t : TA} {m : MA} {pos : Pos} {wi : TI} {mi : MI} {scope : Scope} {own : List (Str × Nat)} {is : List Nat} {g : TG} {mg : MG}
theorem any_freeze {g : Gam} {w0 w : Wd} {H0 H : Hp} {σ : L2.St} {env : Envr} {S : Sto} {O : List (Option Addr)} {p : Addr} {o : HO} (st : StR g w0 H0 w H σ env S O) (ho : H p = some o) (nt : ∀ ps, o ≠ .tbl ps) (n0 : H0 p = none) (ng : w.G p = none) (nr : p ∉ w.rho) (no : ∀ i : Nat, O[i]? ≠ some (some p)) :
    StR g w0 H0 ⟨w.rho, upd w.G p o⟩ H σ env S O ∧ w.le ⟨w.rho, upd w.G p o⟩ := by
  have le : w.le ⟨w.rho, upd w.G p o⟩ := ⟨⟨[], by simp⟩, same_upd ng⟩
  refine ⟨⟨⟨fun b x e => ?_, ⟨st.ok.cells.nd, st.ok.cells.len, fun m b c e1 e2 => ?_⟩, st.ok.tabs, fun b ps e => ?_⟩, ⟨st.fr.le.trans le, st.fr.keep, fun b e => ?_, st.fr.rho, st.fr.dom, st.fr.tb, st.fr.fz⟩, st.l1, st.l2, fun i s x q e1 e2 e3 => ?_, st.inj, st.fresh⟩, le⟩
  · by_cases hb : b = p
    · have e2 : upd w.G p o b = some x := e
      rw [hb, upd_same] at e2
      rw [hb, ho, e2]
    · have e2 : upd w.G p o b = some x := e
      rw [upd_ne hb] at e2
      exact st.ok.ex b x e2
  · obtain ⟨q1, q2⟩ := st.ok.cells.at_ m b c e1 e2
    have ne : b ≠ p := fun z => nr (by rw [← z]; exact List.mem_of_getElem? e1)
    exact ⟨(upd_ne ne).trans q1, q2.move le rfl⟩
  · by_cases hb : b = p
    · have e2 : upd w.G p o b = some (.tbl ps) := e
      rw [hb, upd_same] at e2
      exact nt ps (Option.some.inj e2)
    · have e2 : upd w.G p o b = some (.tbl ps) := e
      rw [upd_ne hb] at e2
      exact st.ok.notab b ps e2
  · have ne : b ≠ p := fun z => e (by rw [z]; exact n0)
    exact (upd_ne ne).trans (st.fr.newG b e)
  · have q' := st.sl i s x q e1 e2 e3
    cases s with
    | no => exact q'
    | v d =>
      obtain ⟨z1, v, z2, z3⟩ := q'
      exact ⟨z1, v, z2, z3.mono le⟩
    | o c' =>
      obtain ⟨p', z1, z2, z3, z4⟩ := q'
      have ne : p' ≠ p := fun z => no i (by rw [e3, z1, z])
      exact ⟨p', z1, z2, (upd_ne ne).trans z3, z4.move le rfl⟩
end
end Mm
namespace Gf
def tops (xs : List Nat) : List Nat := (bas xs).map Nat.log2
end Gf
namespace Gf
open Mm
def can (xs : List Nat) : List Nat := nsrt (bas xs)
end Gf
namespace Mm
open PySem L2
def NX (o : Out) (Q : Envr → Sto → Prop) : Prop := match o with
  | .nx e S => Q e S
  | _ => False
@[simp] theorem NX_nx (e : Envr) (S : Sto) (Q : Envr → Sto → Prop) : NX (.nx e S) Q = Q e S := rfl
def RX {α : Type} (o : R α) (Q : α → Sto → Prop) : Prop := match o with
  | .ok r S => Q r S
  | _ => False
@[simp] theorem RX_ok {α : Type} (e : α) (S : Sto) (Q : α → Sto → Prop) : RX (.ok e S) Q = Q e S := rfl
theorem RX_iff {α : Type} {o : R α} {Q : α → Sto → Prop} : RX o Q ↔ ∃ e S, o = .ok e S ∧ Q e S := by
  constructor
  · intro h
    cases o with
    | ok e S => exact ⟨e, S, rfl, h⟩
    | _ => exact False.elim h
  · rintro ⟨e, S, rfl, h⟩
    exact h
def EX (o : Out) (Q : Ret → Sto → Prop) : Prop := match o with
  | .nx _ S => Q (.val .non) S
  | .rt r S => Q r S
  | _ => False
@[simp] theorem EX_nx (e : Envr) (S : Sto) (Q : Ret → Sto → Prop) : EX (.nx e S) Q = Q (.val .non) S := rfl
@[simp] theorem EX_rt (r : Ret) (S : Sto) (Q : Ret → Sto → Prop) : EX (.rt r S) Q = Q r S := rfl
theorem EX_fn {n : Nat} {m : MS} {ds : List D} {S : Sto} {Q : Ret → Sto → Prop} (h : EX (m (startE n ds) S) Q) : RX (mFn n m ds S) Q := by
  unfold mFn
  cases q : m (startE n ds) S with
  | nx e S1 => rw [q] at h; exact h
  | rt r S1 => rw [q] at h; exact h
  | _ => rw [q] at h; exact False.elim h
theorem EX_seq {a b : MS} {env : Envr} {S : Sto} {Q : Ret → Sto → Prop} (h : NX (a env S) fun e S1 => EX (b e S1) Q) : EX (sSeq a b env S) Q := by
  rw [sSeq_eq]
  cases q : a env S with
  | nx e S1 => rw [q] at h; exact h
  | _ => rw [q] at h; exact False.elim h
end Mm
namespace Mm
open PySem L2
section
variable {X : Cx} {Y : Gam} {W : WX} {e : Expr} {te : TE} {me : ME}
def eIdx (mo me : ME) : ME := fun env S => (mo env S).bind fun d S1 => match d with
  | .lst ds => (me env S1).bind fun k S2 => (match k with
    | .int k => (match intsOf ds with
      | some ns => if k ∈ ns then .ok (.int (ns.idxOf k : Nat)) S2 else .stuck
      | none => .stuck)
    | _ => .stuck)
  | _ => .stuck
theorem idx_at {ns : List Int} {k : Int} (h : k ∈ ns) : (ns.map V.int)[ns.idxOf k]? = some (V.int k) := by
  have hl := List.idxOf_lt_length_of_mem h
  rw [List.getElem?_map, List.getElem?_eq_getElem hl, List.getElem_idxOf hl]
  rfl
theorem idx_ne {k : Int} : ∀ (ns : List Int) (m : Nat), m < ns.idxOf k → ns[m]? ≠ some k
  | [], m, h => by simp at h
  | n :: ns, m, h => by
    rw [List.idxOf_cons] at h
    by_cases e : n = k
    · simp [e] at h
    · have eb : (n == k) = false := by simpa using e
      rw [eb] at h
      cases m with
      | zero =>
        simp
        exact e
      | succ m =>
        simp only [cond_false] at h
        rw [List.getElem?_cons_succ]
        exact idx_ne ns m (by omega)
theorem idx_first {ns : List Int} {k : Int} (m : Nat) (z : V) (hm : m < ns.idxOf k) (h : (ns.map V.int)[m]? = some z) : eqV z (.int k) = false := by
  rw [List.getElem?_map] at h
  cases q : ns[m]? with
  | none => rw [q] at h; cases h
  | some n =>
    rw [q] at h
    cases h
    have ne : n ≠ k := fun e => by
      subst e
      exact idx_ne ns m hm q
    show (n == k) = false
    simpa using ne
theorem s_idx {o : Expr} {to : TE} {mo : ME} {apos cpos : Pos} (ho : SE X Y W o to mo) (he : SE X Y W e te me) (hK : X.K = Y.K := by rfl) (hbase : attributeBase o "index" X.env (eval o X.env) = eval o X.env := by rfl)
    (hfew : ((backTo cpos (starEach [e] X.env)).all (fun x => !x.1) && (backToKw cpos (keywordEach [] X.env)).all (fun x => x.1.isSome) && decide ([e].length + ([] : List Keyword).length + (if ([] : List Keyword).isEmpty then 0 else 1) < 30)) = true := by rfl)
    (hline : (apos.endLine == cpos.line) = true := by rfl) (hs : starEach [e] X.env = (false, eval e X.env) :: starEach [] X.env := by rfl) (hplain : (backTo cpos (starEach [] X.env)).any (·.1) = false := by rfl) :
    SE X Y W (.Call (.Attribute o "index" apos) [e] [] cpos) (tBM Y.K "list" (rIndex Y.K) to (tCons te tNil)) (eIdx mo me) :=
  ⟨hK ▸ pe_bm PySem.F.plainAttrs_list PySem.F.slot_list_index PySem.F.type_list_index mt_index ho.pe (pa_cons he.pe pa_nil hs) hbase hfew hline hs hplain, fun w0 H0 w H σ env S O Q st p =>
  ho.sim w0 H0 w H σ env S O _ st ((PostX.bind p).imp fun d S1 w1 H1 st1 l1 p1 v r => by
    cases d with
    | lst ds =>
      obtain ⟨a, vs, e1, e2, e3⟩ := rep_lst r
      refine ⟨by rw [e1]; exact tyV_lst (st1.ok.ex _ _ e2), ?_⟩
      refine he.sim w0 H0 w1 H1 σ env S1 O _ st1 ((PostX.bind p1).imp fun k S2 w2 H2 st2 l2 p2 u ru => ?_)
      cases k with
      | int k =>
        simp only [] at p2
        cases y : intsOf ds with
        | none => rw [y] at p2; exact False.elim p2
        | some ns =>
          rw [y] at p2
          simp only [] at p2
          split at p2
          · rename_i hm
            have ev : vs = ns.map V.int := intsOf_rep (g := Y) (w := w1) y e3
            refine ⟨a, ns.map V.int, .int k, ns.idxOf k, .int k, e1, by rw [rep_int ru], .inl (.inl ?_), rfl, flat_ints ns, idx_at hm, ?_, idx_first, p2 w2 H2 st2 (.refl w2) _ rep_int'⟩
            · rw [← ev]
              exact st2.ok.ex _ _ (l2.ex _ _ e2)
            · show (k == k) = true
              simp
          · exact False.elim p2
      | _ => exact False.elim p2
    | _ => exact False.elim p1)⟩
end
end Mm
namespace Mm
open PySem PySem.Spec PyProof.Rows L2
section
variable {X : Cx} {CX : CXT} {k n : Nat} {f : Addr} {fd : FuncData} {ps ks : List Str} {sp : Sp} {E : L2.St → XK} {x : Str} {p pos : Pos} {e : Expr} {es : List Expr} {kws : List Keyword} {t tk : TA} {g : List Value → List Value → List Value} {gV : List V → List V → List V}
theorem run_fnNS {pins : List (Addr × Obj)} {σ : L2.St} {H : Hp} {s : Shared} {Q : VK} {us ws : List Value} {vs zs : List V} (F : FnOk X.prog X.w X.K X.mg X.base CX k f fd ps sp) (hr : Room k X.A) (hb : KBn X.K fd ps n ks g gV) (hx : PassesAt CX X σ (E σ))
    (I : Inv X pins σ H s) (r : Vals vs us) (rz : Vals zs ws) (l1 : vs.length = n) (l2 : zs.length = ks.length) (h : sp (gV vs zs) H Q (E σ)) : wpAny (model X.prog X.w) X.A (call (.ref f) us (ks.zip ws)) (EP X pins σ Q) X.xe s := by
  have r2 := hb.rel r rz
  refine wpAny_call (codeAny_mono (F.run X.A X.stack s H ⟨us, ks.zip ws⟩ (g us ws) (gV vs zs) Q (E σ) hr I.env0 (hb.to s us ws I.kIn (r.length.symm.trans l1) (rz.length.symm.trans l2)) r2 h) fun r s' hq => ?_)
  cases r with
  | error e => exact hx pins H s e s' I hq
  | ok fl =>
    cases fl with
    | ret u => exact I.after hq
    | next => exact False.elim hq
    | brk => exact False.elim hq
    | cont => exact False.elim hq
theorem pe_callNS (F : FnOk X.prog X.w X.K X.mg X.base CX k f fd ps sp) (hr : Room k X.A) (hg : Gl X x) (hm : X.mg x = some (.ref f)) (hk : PySem.W.keepIn X.K (.ref f) = true) (hb : KBn X.K fd ps n ks g gV) (hx : ∀ σ, PassesAt CX X σ (E σ))
    (ha : PA X (e :: es) t) (hkw : PK X kws tk) (hall : (backToKw pos (keywordEach kws X.env)).all (·.1.isSome) = true) (hks : (backToKw pos (keywordEach kws X.env)).filterMap (·.1) = ks)
    (hdb : (x == ("__debug__" : Str)) = false) (he : starEach (e :: es) X.env = (false, eval e X.env) :: starEach es X.env)
    (hpl : ((backTo pos (starEach (e :: es) X.env)).any (·.1) || (backToKw pos (keywordEach kws X.env)).any (·.1.isNone)) = false) :
    PE X (.Call (.Name x p) (e :: es) kws pos) (fun σ => tCallN n ks.length sp gV (E σ) t tk σ) := by
  refine ⟨fun pins s σ H Q I h => ?_⟩
  refine wpAny_Call_Name_kw (ld_glob I hg hm ?_ hdb)
  refine PySem.W.callWith_KW (h₀ := X.base) I.ok.mod.kin hk hall (thn (ha.run pos pins s σ H _ I h) fun us s1 ⟨vs, H1, I1, r, q⟩ => ?_) hpl he
  refine thn (hkw.run pos pins s1 σ H1 _ I1 q) fun ws s2 ⟨zs, H2, I2, rz, l1, l2, q2⟩ => ⟨I2.kIn, ?_⟩
  rw [hks]
  exact run_fnNS F hr hb (hx σ) I2 r rz l1 l2 q2
end
def aCat (m mk : MA) : MA := fun env S => (m env S).bind fun ds S1 => (mk env S1).bind fun es S2 => .ok (ds ++ es) S2
structure SK (X : Cx) (Y : Gam) (W : WX) (kws : List Keyword) (t : TA) (m : MA) : Prop where
  pk : PK X kws t
  sim : SimA Y W t m
  len : ∀ env S ds S1, m env S = .ok ds S1 → ds.length = kws.length
section
variable {X : Cx} {Y : Gam} {W : WX} {e : Expr} {es : List Expr} {te : TE} {me : ME} {p pos kpos : Pos} {kws : List Keyword} {t tk : TA} {m mk : MA} {nm : Str} {x : Str} {k n nk : Nat} {mf : MFn} {ks : List Str}
theorem k_nil : SK X Y W [] tNil aNil := ⟨pk_nil, fun w0 H0 w H σ env S O Q st p => p w H st (.refl w) [] RepL.nil_, fun env S ds S1 e => by cases e; rfl⟩
theorem k_cons (he : SE X Y W e te me) (hr : SK X Y W kws t m) : SK X Y W (⟨some nm, e, kpos⟩ :: kws) (tCons te t) (aCons me m) := ⟨pk_cons he.pe hr.pk, fun w0 H0 w H σ env S O Q st p =>
  he.sim w0 H0 w H σ env S O _ st ((PostX.bind p).imp fun d S1 w1 H1 st1 l1 p1 v r => hr.sim w0 H0 w1 H1 σ env S1 O _ st1 ((PostX.bind p1).imp fun ds S2 w2 H2 st2 l2 p2 vs rs => p2 w2 H2 st2 (.refl w2) (v :: vs) (RepL.cons_ (r.mono l2) rs))), fun env S ds S1 h => by
  unfold aCons at h
  cases e1 : me env S with
  | stuck => rw [e1] at h; cases h
  | exc c q s => rw [e1] at h; cases h
  | ok d s =>
    rw [e1] at h
    have h : ((m env s).bind fun ds S2 => R.ok (d :: ds) S2) = .ok ds S1 := h
    cases e2 : m env s with
    | stuck => rw [e2] at h; cases h
    | exc c q s => rw [e2] at h; cases h
    | ok d2 s2 =>
      rw [e2] at h
      have h : R.ok (d :: d2) s2 = .ok ds S1 := h
      cases h
      rw [List.length_cons, List.length_cons, hr.len _ _ _ _ e2]⟩
end
def KnK (P : Program) (w : World) (K : PySem.W.Frag) (mg : Str → Option Value) (base : Heap) (Y : Gam) (k : Nat) (x : Str) (n : Nat) (ks : List Str) (mf : MFn) (dvs : List V) (dd : List D) : Prop :=
  ∃ (f : Addr) (fd : FuncData) (ps : List Str) (ds : List Value), FnOk P w K mg base (L2N.CX P w) k f fd ps (spOf Y (n + ks.length + dd.length) mf) ∧ mg x = some (.ref f) ∧ PySem.W.keepIn K (.ref f) = true ∧ KBn K fd ps n ks (fun us ws => us ++ ws ++ ds) (fun vs zs => vs ++ zs ++ dvs) ∧ ∀ w, RepL Y w dd dvs
section
variable {X : Cx} {Y : Gam} {W : WX} {e : Expr} {es : List Expr} {te : TE} {me : ME} {p pos kpos : Pos} {kws : List Keyword} {t tk : TA} {m mk : MA} {nm : Str} {x : Str} {k n nk : Nat} {mf : MFn} {ks : List Str} {dvs : List V} {dd : List D}
theorem sim_callK {g : Gam} (hdv : ∀ w, RepL g w dd dvs) (ha : SimA g W t m) (hk : SimA g W tk mk) (la : ∀ env S ds S1, m env S = .ok ds S1 → ds.length = n) (lk : ∀ env S ds S1, mk env S = .ok ds S1 → ds.length = nk)
    {w0 w : Wd} {H0 H : Hp} {σ : L2.St} {env : Envr} {S : Sto} {O : List (Option Addr)} {α : Type} {F : Ret → Sto → R α} {kk : α → Sto → Wd → Hp → Prop} {Q : VK}
    (st : StR g w0 H0 w H σ env S O) (p : PostX g W w0 H0 w σ env O ((aCat m mk env S).bind fun ds S1 => (mf (ds ++ dd) S1).bind F) kk)
    (fin : ∀ w1 H1 S1 r, StR g w0 H0 w1 H1 σ env S1 O → PostX g W w0 H0 w1 σ env O (r.bind F) kk → PostF g w1 H1 Q (WE W σ) r) : tCallN n nk (spOf g (n + nk + dd.length) mf) (fun vs zs => vs ++ zs ++ dvs) (WE W σ) t tk σ H Q := by
  have p : PostX g W w0 H0 w σ env O ((m env S).bind fun as S1 => (mk env S1).bind fun bs S2 => (mf (as ++ bs ++ dd) S2).bind F) kk := by
    unfold aCat at p
    cases e1 : m env S with
    | stuck => rw [e1] at p; exact p
    | exc c q s => rw [e1] at p; exact p
    | ok d s =>
      rw [e1] at p
      show PostX g W w0 H0 w σ env O ((mk env s).bind fun bs S2 => (mf (d ++ bs ++ dd) S2).bind F) kk
      have p : PostX g W w0 H0 w σ env O (((mk env s).bind fun es S2 => R.ok (d ++ es) S2).bind fun ds S1 => (mf (ds ++ dd) S1).bind F) kk := p
      cases e2 : mk env s with
      | stuck => rw [e2] at p; exact p
      | exc c q s => rw [e2] at p; exact p
      | ok d2 s2 => rw [e2] at p; exact p
  refine ha w0 H0 w H σ env S O _ st ?_
  have p2 := PostX.bind p
  cases e : m env S with
  | stuck => rw [e] at p2; exact p2
  | exc c q S2 => rw [e] at p2; exact p2
  | ok as S1 =>
    rw [e] at p2
    intro w1 H1 st1 l1 vs rs
    have p3 := p2 w1 H1 st1 l1
    refine hk w0 H0 w1 H1 σ env S1 O _ st1 ?_
    have p4 := PostX.bind p3
    cases e2 : mk env S1 with
    | stuck => rw [e2] at p4; exact p4
    | exc c q S2 => rw [e2] at p4; exact p4
    | ok bs S2 =>
      rw [e2] at p4
      intro w2 H2 st2 l2 zs rz
      have p5 := p4 w2 H2 st2 l2
      have l1' := la _ _ _ _ e
      have l2' := lk _ _ _ _ e2
      have r2 := ((rs.mono l2).append_ rz).append_ (hdv w2)
      refine ⟨by rw [← rs.len]; exact l1', by rw [← rz.len]; exact l2', ?_, w2, as ++ bs ++ dd, S2, st2.ok, r2, fin w2 H2 S2 _ st2 p5⟩
      rw [← r2.len, List.length_append, List.length_append, l1', l2']
theorem u_callK (h : KnK X.prog X.w X.K X.mg X.base Y k x n ks mf dvs dd) (hr : Room k X.A) (tk' : L2N.Takes X W) (ha : SA X Y W (e :: es) t m) (hk : SK X Y W kws tk mk) (hn : (e :: es).length = n := by rfl) (hnk : kws.length = ks.length := by rfl) (hg : Gl X x := by rfl)
    (hall : (backToKw pos (keywordEach kws X.env)).all (·.1.isSome) = true := by rfl) (hks : (backToKw pos (keywordEach kws X.env)).filterMap (·.1) = ks := by rfl)
    (hdb : (x == ("__debug__" : Str)) = false := by decide) (he : starEach (e :: es) X.env = (false, eval e X.env) :: starEach es X.env := by rfl)
    (hpl : ((backTo pos (starEach (e :: es) X.env)).any (·.1) || (backToKw pos (keywordEach kws X.env)).any (·.1.isNone)) = false := by rfl) :
    SE X Y W (.Call (.Name x p) (e :: es) kws pos) (fun σ => tCallN n ks.length (spOf Y (n + ks.length + dd.length) mf) (fun vs zs => vs ++ zs ++ dvs) (WE W σ) t tk σ) (eCall mf dd (aCat m mk)) := by
  obtain ⟨f, fd, ps, ds, F, hm, hkp, hb, hdv⟩ := h
  refine ⟨pe_callNS (E := WE W) F hr hg hm hkp hb (fun σ => L2N.passAt tk' σ) ha.pa hk.pk hall hks hdb he hpl, fun w0 H0 w H σ env S O Q st p => sim_callK hdv ha.sim hk.sim (fun env S ds S1 h => by rw [ha.len _ _ _ _ h]; exact hn) (fun env S ds S1 h => by rw [hk.len _ _ _ _ h]; exact hnk) st p fun w1 H1 S1 r st1 p1 => post_val st1 p1⟩
end
theorem kbn_of {K : PySem.W.Frag} {x qual : Str} {params : Arguments} {body : List Stmt} {scope : Scope} {kws : List (Str × V)} {f : Addr} {fd : FuncData} {ps : List Str} (F : FunD K x qual params body scope [] kws f fd) (n : Nat) (ks : List Str)
    (h : ∀ (kV doc pm : Value) (an : Option Addr) (cdv ct : Value) (us ws : List Value), us.length = n → ws.length = ks.length → bindArgs (PySem.W.fnOf x qual params body scope .none kV doc pm an cdv ct) ⟨us, ks.zip ws⟩ = pure (ps.zip (us ++ ws))) : KBn K fd ps n ks (fun us ws => us ++ ws ++ []) (fun vs zs => vs ++ zs ++ []) := by
  obtain ⟨oc, od, dV, kV, doc, pm, an, cdv, ct, osl, rfl, lk, hcd, hD, hK⟩ := F.ex
  rcases hD with ⟨_, rfl⟩ | ⟨e, _⟩
  · refine ⟨fun s us ws X l1 l2 => ?_, fun {vs us zs ws} r1 r2 => ?_⟩
    · rw [List.append_nil]
      exact .of_eq (h kV doc pm an cdv ct us ws l1 l2)
    · rw [List.append_nil, List.append_nil]
      exact r1.append r2
  · exact absurd rfl e
end Mm
namespace Mm
open PySem L2
def keyD : D → Option Key
  | .int i => some (.inl i)
  | .str x => some (.inr x)
  | _ => none
theorem rep_key {g : Gam} {w : Wd} {d : D} {v : V} {k : Key} (r : Rep g w d v) (h : keyD d = some k) : v = kV k := by
  cases d with
  | int i => cases h; exact rep_int r
  | str x => cases h; exact rep_str r
  | _ => cases h
def lookK (ks : List (Key × D)) (k : Key) : Option D := (ks.find? fun kv => decide (kv.1 = k)).map (·.2)
def putD (ks : List (Key × D)) (k : Key) (d : D) : List (Key × D) := if (ks.any fun kv => decide (kv.1 = k)) then ks.map fun kv => if kv.1 = k then (kv.1, d) else kv else ks ++ [(k, d)]
theorem RepK.nil_ {g : Gam} {w : Wd} : RepK g w [] [] := by unfold RepK; rfl
theorem RepK.cons_ {g : Gam} {w : Wd} {k : Key} {d : D} {ds : List (Key × D)} {v : V} {vs : List (Key × V)} (a : Rep g w d v) (b : RepK g w ds vs) : RepK g w ((k, d) :: ds) ((k, v) :: vs) := by
  unfold RepK
  exact ⟨v, vs, rfl, a, b⟩
theorem RepK.inv {g : Gam} {w : Wd} {k : Key} {d : D} {ds : List (Key × D)} {vs : List (Key × V)} (h : RepK g w ((k, d) :: ds) vs) : ∃ v r, vs = (k, v) :: r ∧ Rep g w d v ∧ RepK g w ds r := by
  unfold RepK at h
  exact h
theorem RepK.look {g : Gam} {w : Wd} (k : Key) : ∀ {ds : List (Key × D)} {vs : List (Key × V)}, RepK g w ds vs → (match lookK ds k with
    | some d => ∃ v, valV vs k = some v ∧ Rep g w d v
    | none => valV vs k = none)
  | [], vs, h => by
    unfold RepK at h
    subst h
    rfl
  | (k', d) :: ds, vs, h => by
    obtain ⟨v, r, rfl, a, b⟩ := h.inv
    have ih := RepK.look k b
    by_cases e : k' = k
    · have e1 : lookK ((k', d) :: ds) k = some d := by simp [lookK, e]
      rw [e1]
      exact ⟨v, valV_pos e, a⟩
    · have e1 : lookK ((k', d) :: ds) k = lookK ds k := by simp [lookK, e]
      rw [e1, valV_neg e]
      exact ih
theorem RepK.any_ {g : Gam} {w : Wd} (k : Key) : ∀ {ds : List (Key × D)} {vs : List (Key × V)}, RepK g w ds vs → (ds.any fun kv => decide (kv.1 = k)) = (vs.any fun kv => decide (kv.1 = k))
  | [], vs, h => by
    unfold RepK at h
    subst h
    rfl
  | (k', d) :: ds, vs, h => by
    obtain ⟨v, r, rfl, a, b⟩ := h.inv
    rw [List.any_cons, List.any_cons, RepK.any_ k b]
theorem RepK.app_ {g : Gam} {w : Wd} : ∀ {ds es : List (Key × D)} {vs us : List (Key × V)}, RepK g w ds vs → RepK g w es us → RepK g w (ds ++ es) (vs ++ us)
  | [], es, vs, us, h, k => by
    unfold RepK at h
    subst h
    exact k
  | (k', d) :: ds, es, vs, us, h, k => by
    obtain ⟨v, r, rfl, a, b⟩ := h.inv
    exact RepK.cons_ a (RepK.app_ b k)
theorem RepK.map_ {g : Gam} {w : Wd} {k : Key} {d : D} {v : V} (q : Rep g w d v) : ∀ {ds : List (Key × D)} {vs : List (Key × V)}, RepK g w ds vs → RepK g w (ds.map fun kv => if kv.1 = k then (kv.1, d) else kv) (vs.map fun kv => if kv.1 = k then (kv.1, v) else kv)
  | [], vs, h => by
    unfold RepK at h
    subst h
    exact RepK.nil_
  | (k', e) :: ds, vs, h => by
    obtain ⟨u, r, rfl, a, b⟩ := h.inv
    have ih := RepK.map_ (k := k) q b
    by_cases z : k' = k
    · simp only [List.map_cons, z, if_true]
      exact RepK.cons_ q ih
    · simp only [List.map_cons, z, if_false]
      exact RepK.cons_ a ih
theorem RepK.put_ {g : Gam} {w : Wd} {k : Key} {d : D} {v : V} (q : Rep g w d v) {ds : List (Key × D)} {vs : List (Key × V)} (h : RepK g w ds vs) : RepK g w (putD ds k d) (putK vs k v) := by
  unfold putD putK
  rw [h.any_ k]
  split
  · exact RepK.map_ q h
  · exact h.app_ (RepK.cons_ q RepK.nil_)
theorem RepK.len {g : Gam} {w : Wd} : ∀ {ds : List (Key × D)} {vs : List (Key × V)}, RepK g w ds vs → ds.length = vs.length
  | [], vs, h => by
    unfold RepK at h
    subst h
    rfl
  | (k', d) :: ds, vs, h => by
    obtain ⟨v, r, rfl, a, b⟩ := h.inv
    rw [List.length_cons, List.length_cons, RepK.len b]
theorem rep_dic {g : Gam} {w : Wd} {ks : List (Key × D)} {v : V} (h : Rep g w (.dic ks) v) : ∃ a vs, v = .ref a ∧ Rd w.G a (.dK vs) ∧ RepK g w ks vs := by
  unfold Rep at h
  exact h
def dicOf (S : Sto) : D → Option (List (Key × D))
  | .dic ks => some ks
  | .ref n => (match S[n]? with
    | some (.dic ks) => some ks
    | some (.lck ks) => some ks
    | _ => none)
  | _ => none
theorem dicOf_rep {g : Gam} {w : Wd} {H : Hp} {S : Sto} {d : D} {v : V} {ks : List (Key × D)} (k : Ok g w H S) (r : Rep g w d v) (h : dicOf S d = some ks) : ∃ a vs, v = .ref a ∧ Rd H a (.dK vs) ∧ RepK g w ks vs := by
  cases d with
  | dic ks' =>
    cases h
    obtain ⟨a, vs, e1, e2, e3⟩ := rep_dic r
    exact ⟨a, vs, e1, same_rd k.ex e2, e3⟩
  | ref n =>
    have h : (match S[n]? with
      | some (.dic ks) => some ks
      | some (.lck ks) => some ks
      | _ => none) = some ks := h
    cases q : S[n]? with
    | none => rw [q] at h; cases h
    | some c =>
      rw [q] at h
      cases c with
      | dic ks' =>
        cases h
        obtain ⟨a, e1, e2⟩ := rep_ref r
        obtain ⟨_, vs, e3, e4⟩ := k.cells.at_ n a _ e1 q
        exact ⟨a, vs, e2, .inl e3, e4⟩
      | lck ks' =>
        cases h
        obtain ⟨a, e1, e2⟩ := rep_ref r
        obtain ⟨_, o, vs, e3, e4⟩ := k.cells.at_ n a _ e1 q
        exact ⟨a, vs, e2, .inr ⟨o, e3⟩, e4⟩
      | _ => cases h
  | _ => cases h
def dicA (env : Envr) (S : Sto) (i : Nat) : Option (List (Key × D)) := match env[i]? with
  | some (.o (.dic ks)) => some ks
  | some (.v d) => dicOf S d
  | _ => none
def hasA (env : Envr) (i : Nat) : Bool := match env[i]? with
  | some (.o (.dic _)) => true
  | some (.v _) => true
  | _ => false
section
variable {g : Gam} {w0 w w1 : Wd} {H0 H H1 : Hp} {σ : L2.St} {env : Envr} {S S1 : Sto} {O : List (Option Addr)}
theorem hasA_at {i : Nat} (st : StR g w0 H0 w H σ env S O) (h : hasA env i = true) : ∃ v, σ[i]? = some (some v) := by
  unfold hasA at h
  split at h
  · rename_i ks e
    obtain ⟨q, e1, _⟩ := st.own_at e
    exact ⟨_, e1⟩
  · rename_i d e
    have hi : i < σ.length := by
      rw [← st.l1]
      exact (List.getElem?_eq_some_iff.mp e).1
    have hO : i < O.length := by
      rw [st.l2]
      exact hi
    obtain ⟨_, v, e1, r⟩ := st.sl i (.v d) σ[i] O[i] e (List.getElem?_eq_getElem hi) (List.getElem?_eq_getElem hO)
    exact ⟨v, by rw [List.getElem?_eq_getElem hi, e1]⟩
  · cases h
theorem dicA_at {i : Nat} {ks : List (Key × D)} {v : V} (st : StR g w0 H0 w H σ env S O) (hv : σ[i]? = some (some v)) (h : dicA env S i = some ks) : ∃ a vs, v = .ref a ∧ Rd H a (.dK vs) ∧ RepK g w ks vs := by
  unfold dicA at h
  split at h
  · rename_i ks' e
    cases h
    obtain ⟨q, e1, e2, e3, ⟨vs, e4, e5⟩, _⟩ := st.own_at e
    rw [hv] at e1
    have e1 := Option.some.inj (Option.some.inj e1)
    exact ⟨q, vs, e1, .inl e4, e5⟩
  · rename_i d e
    have hi : i < σ.length := by
      rw [← st.l1]
      exact (List.getElem?_eq_some_iff.mp e).1
    have hO : i < O.length := by
      rw [st.l2]
      exact hi
    obtain ⟨_, u, e1, r⟩ := st.sl i (.v d) σ[i] O[i] e (List.getElem?_eq_getElem hi) (List.getElem?_eq_getElem hO)
    rw [List.getElem?_eq_getElem hi, e1] at hv
    have hv := Option.some.inj (Option.some.inj hv)
    subst hv
    exact dicOf_rep st.ok r h
  · cases h
theorem dicA_has {i : Nat} {ks : List (Key × D)} (h : dicA env S i = some ks) : hasA env i = true := by
  unfold dicA at h
  unfold hasA
  cases q : env[i]? with
  | none => rw [q] at h; cases h
  | some s =>
    cases s with
    | no => rw [q] at h; cases h
    | v d => rfl
    | o c =>
      cases c with
      | dic ks => rfl
      | lst ds => rw [q] at h; cases h
      | ins c fs => rw [q] at h; cases h
      | tdc ks => rw [q] at h; cases h
      | lck ks => rw [q] at h; cases h
      | mem ks => rw [q] at h; cases h
      | lkl ks => rw [q] at h; cases h
end
def eDGetA (i : Nat) (mk : ME) : ME := fun env S => if hasA env i then (mk env S).bind fun k S1 => (match keyD k, dicA env S1 i with
  | some k, some ks => opt (lookK ks k) S1
  | _, _ => .stuck) else .stuck
def eDGet (md mk : ME) : ME := fun env S => (md env S).bind fun d S1 => (mk env S1).bind fun k S2 => match keyD k, dicOf S2 d with
  | some k, some ks => opt (lookK ks k) S2
  | _, _ => .stuck
def eDInA (neg : Bool) (mk : ME) (i : Nat) : ME := fun env S => (mk env S).bind fun k S1 => match keyD k, dicA env S1 i with
  | some k, some ks => .ok (.bl (if neg then !(lookK ks k).isSome else (lookK ks k).isSome)) S1
  | _, _ => .stuck
def eDIn (neg : Bool) (mk md : ME) : ME := fun env S => (mk env S).bind fun k S1 => (md env S1).bind fun d S2 => match keyD k, dicOf S2 d with
  | some k, some ks => .ok (.bl (if neg then !(lookK ks k).isSome else (lookK ks k).isSome)) S2
  | _, _ => .stuck
def eDGet2A (i : Nat) (mk mx : ME) : ME := fun env S => (match dicA env S i with
  | some _ => (mk env S).bind fun k S1 => (mx env S1).bind fun x S2 => (match keyD k, dicA env S2 i with
    | some k, some ks => .ok ((lookK ks k).getD x) S2
    | _, _ => .stuck)
  | none => .stuck)
def sDPutA (i : Nat) (mk me : ME) : MS := fun env S => (me env S).out env fun d S1 => if hasA env i then (mk env S1).out env fun k S2 => (match keyD k, env[i]? with
    | some k, some (.o (.dic ks)) => if szB (ks.length + 1) then .nx (env.set i (.o (.dic (putD ks k d)))) S2 else .stuck
    | some k, some (.v (.ref n)) => (match S2[n]? with
      | some (.dic ks) => if szB (ks.length + 1) then .nx env (S2.set n (.dic (putD ks k d))) else .stuck
      | _ => .stuck)
    | _, _ => .stuck) else .stuck
def sDPut (md mk me : ME) : MS := fun env S => (me env S).out env fun d S1 => (md env S1).out env fun o S2 => (mk env S2).out env fun k S3 => (match keyD k, o with
    | some k, .ref n => (match S3[n]? with
      | some (.dic ks) => if szB (ks.length + 1) then .nx env (S3.set n (.dic (putD ks k d))) else .stuck
      | _ => .stuck)
    | _, _ => .stuck)
def fDic0 : MF := fun _ S => .ok (.dic []) S
def eCellOf (mf : MF) : ME := fun env S => (mf env S).bind fun c S1 => .ok (.ref S1.length) (S1 ++ [c])
section
variable {X : Cx} {Y : Gam} {W : WX} {e o k f : Expr} {te td tk tx : TE} {me md mk mx : ME} {mf : MF} {pos pos' p1 apos cpos : Pos}
theorem dget_rd {H : Hp} {a : Addr} {kvs : List (Key × V)} {k : Key} (e : Rd H a (.dK kvs)) : DGet H a (kV k) (valV kvs k) := .inl ⟨kvs, k, e, rfl, rfl⟩
theorem look_get {g : Gam} {w : Wd} {H : Hp} {a : Addr} {vs : List (Key × V)} {ks : List (Key × D)} {k : Key} {d : D} (e : Rd H a (.dK vs)) (r : RepK g w ks vs) (h : lookK ks k = some d) : ∃ v, DGet H a (kV k) (some v) ∧ Rep g w d v := by
  have q := r.look k
  rw [h] at q
  obtain ⟨v, e1, e2⟩ := q
  exact ⟨v, e1 ▸ dget_rd e, e2⟩
theorem nt_dK {vs : List (Key × V)} : ∀ ps, HO.dK vs ≠ .tbl ps := fun _ z => by cases z
theorem s_dgetA (i : Nat) {x : Str} (hu : X.A.units + 64 < cLine) (hk : SE X Y W k tk mk) (hs : NoSl k) (hN : X.N[i]? = some x := by rfl) (hv : Vis X.env.scope x := by first | exact Or.inl rfl | exact Or.inr (Or.inl rfl) | exact Or.inr (Or.inr rfl)) (hd : (x == ("__debug__" : Str)) = false := by decide)
    (hcd : (x == ("__classdict__" : Str)) = false := by decide) : SE X Y W (.Subscript (.Name x p1) k pos) (tDGet (tVar i) tk) (eDGetA i mk) := ⟨pe_dget (by omega) (pv i hN hv hd hcd) hk.pe hs, fun w0 H0 w H σ env S O Q st p => by
  unfold eDGetA at p
  split at p
  · rename_i ha
    obtain ⟨v, e1⟩ := hasA_at st ha
    refine ⟨v, e1, hk.sim w0 H0 w H σ env S O _ st ((PostX.bind p).imp fun kd S1 w1 H1 st1 l1 p1 kv kr => ?_)⟩
    split at p1
    · rename_i kk ks h1 h2
      obtain ⟨a, vs, f1, f2, f3⟩ := dicA_at st1 e1 h2
      obtain ⟨d, f4, f5⟩ := PostX.opt_ p1 st1
      obtain ⟨u, f6, f7⟩ := look_get (k := kk) f2 f3 f4
      rw [rep_key kr h1]
      exact ⟨a, u, f1, f6, f5 w1 H1 st1 (.refl w1) u f7⟩
    · exact False.elim p1
  · exact False.elim p⟩
theorem s_dget (hu : X.A.units + 64 < cLine) (ho : SE X Y W o td md) (hk : SE X Y W k tk mk) (hs : NoSl k) : SE X Y W (.Subscript o k pos) (tDGet td tk) (eDGet md mk) := ⟨pe_dget (by omega) ho.pe hk.pe hs, fun w0 H0 w H σ env S O Q st p =>
  ho.sim w0 H0 w H σ env S O _ st ((PostX.bind p).imp fun dd S1 w1 H1 st1 l1 p1 v r => hk.sim w0 H0 w1 H1 σ env S1 O _ st1 ((PostX.bind p1).imp fun kd S2 w2 H2 st2 l2 p2 kv kr => by
    split at p2
    · rename_i kk ks h1 h2
      obtain ⟨a, vs, f1, f2, f3⟩ := dicOf_rep st2.ok (r.mono l2) h2
      obtain ⟨d, f4, f5⟩ := PostX.opt_ p2 st2
      obtain ⟨u, f6, f7⟩ := look_get (k := kk) f2 f3 f4
      rw [rep_key kr h1]
      exact ⟨a, u, f1, f6, f5 w2 H2 st2 (.refl w2) u f7⟩
    · exact False.elim p2))⟩
theorem look_in {g : Gam} {w : Wd} {H : Hp} {a : Addr} {vs : List (Key × V)} {ks : List (Key × D)} (k : Key) (e : Rd H a (.dK vs)) (r : RepK g w ks vs) : ∃ o, DGet H a (kV k) o ∧ o.isSome = (lookK ks k).isSome := by
  have q := r.look k
  refine ⟨valV vs k, dget_rd e, ?_⟩
  cases z : lookK ks k with
  | none => rw [z] at q; rw [q]; rfl
  | some d =>
    rw [z] at q
    obtain ⟨v, e1, _⟩ := q
    rw [e1]
    rfl
theorem sim_dinA {neg : Bool} {i : Nat} (hk : SimE Y W tk mk) {w0 w : Wd} {H0 H : Hp} {σ : L2.St} {env : Envr} {S : Sto} {O : List (Option Addr)} {Q : VK} (st : StR Y w0 H0 w H σ env S O)
    (p : PostX Y W w0 H0 w σ env O (eDInA neg mk i env S) (fun d _ w' H' => ∀ v, Rep Y w' d v → Q v H')) : tk σ H fun y H1 => ∃ v, σ[i]? = some (some v) ∧ ∃ a o, v = .ref a ∧ DGet H1 a y o ∧ Q (.bl (if neg then !o.isSome else o.isSome)) H1 :=
  hk w0 H0 w H σ env S O _ st ((PostX.bind p).imp fun kd S1 w1 H1 st1 l1 p1 kv kr => by
    split at p1
    · rename_i kk ks h1 h2
      obtain ⟨v, e1⟩ := hasA_at st1 (dicA_has h2)
      obtain ⟨a, vs, f1, f2, f3⟩ := dicA_at st1 e1 h2
      obtain ⟨oo, f4, f5⟩ := look_in kk f2 f3
      rw [rep_key kr h1]
      refine ⟨v, e1, a, oo, f1, f4, ?_⟩
      rw [f5]
      exact p1 w1 H1 st1 (.refl w1) _ rep_bl'
    · exact False.elim p1)
theorem sim_din {neg : Bool} (hk : SimE Y W tk mk) (ho : SimE Y W td md) {w0 w : Wd} {H0 H : Hp} {σ : L2.St} {env : Envr} {S : Sto} {O : List (Option Addr)} {Q : VK} (st : StR Y w0 H0 w H σ env S O)
    (p : PostX Y W w0 H0 w σ env O (eDIn neg mk md env S) (fun d _ w' H' => ∀ v, Rep Y w' d v → Q v H')) : tk σ H fun y H1 => td σ H1 fun v H2 => ∃ a o, v = .ref a ∧ DGet H2 a y o ∧ Q (.bl (if neg then !o.isSome else o.isSome)) H2 :=
  hk w0 H0 w H σ env S O _ st ((PostX.bind p).imp fun kd S1 w1 H1 st1 l1 p1 kv kr => ho w0 H0 w1 H1 σ env S1 O _ st1 ((PostX.bind p1).imp fun dd S2 w2 H2 st2 l2 p2 v r => by
    split at p2
    · rename_i kk ks h1 h2
      obtain ⟨a, vs, f1, f2, f3⟩ := dicOf_rep st2.ok r h2
      obtain ⟨oo, f4, f5⟩ := look_in kk f2 f3
      rw [rep_key kr h1]
      refine ⟨a, oo, f1, f4, ?_⟩
      rw [f5]
      exact p2 w2 H2 st2 (.refl w2) _ rep_bl'
    · exact False.elim p2))
theorem c_dninA (i : Nat) {x : Str} (hu : X.A.units + 64 < cLine) (hk : SE X Y W k tk mk) (hN : X.N[i]? = some x := by rfl) (hv : Vis X.env.scope x := by first | exact Or.inl rfl | exact Or.inr (Or.inl rfl) | exact Or.inr (Or.inr rfl)) (hd : (x == ("__debug__" : Str)) = false := by decide)
    (hcd : (x == ("__classdict__" : Str)) = false := by decide) (hm : behindInMarks .NotIn (.Name x p1) = false := by rfl) : SC X Y W (.Compare k [.NotIn] [.Name x p1] pos) (tB (tDNotIn tk (tVar i))) (cB (eDInA true mk i)) :=
  ⟨pt_cmp (pc_dnotin (by omega) hk.pe (pv i hN hv hd hcd)) hm, sim_test (te := tDNotIn tk (tVar i)) (fun w0 H0 w H σ env S O Q st p => sim_dinA (neg := true) hk.sim st p)⟩
theorem s_din (hu : X.A.units + 64 < cLine) (hk : SE X Y W k tk mk) (ho : SE X Y W o td md) (hm : behindInMarks .In o = false := by rfl) : SE X Y W (.Compare k [.In] [o] pos) (tDIn tk td) (eDIn false mk md) :=
  ⟨pe_cmp (pc_din (by omega) hk.pe ho.pe) hm, fun w0 H0 w H σ env S O Q st p => sim_din (neg := false) hk.sim ho.sim st p⟩
theorem s_dnin (hu : X.A.units + 64 < cLine) (hk : SE X Y W k tk mk) (ho : SE X Y W o td md) (hm : behindInMarks .NotIn o = false := by rfl) : SE X Y W (.Compare k [.NotIn] [o] pos) (tDNotIn tk td) (eDIn true mk md) :=
  ⟨pe_cmp (pc_dnotin (by omega) hk.pe ho.pe) hm, fun w0 H0 w H σ env S O Q st p => sim_din (neg := true) hk.sim ho.sim st p⟩
theorem c_din (hu : X.A.units + 64 < cLine) (hk : SE X Y W k tk mk) (ho : SE X Y W o td md) (hm : behindInMarks .In o = false := by rfl) : SC X Y W (.Compare k [.In] [o] pos) (tB (tDIn tk td)) (cB (eDIn false mk md)) :=
  ⟨pt_cmp (pc_din (by omega) hk.pe ho.pe) hm, sim_test (te := tDIn tk td) (s_din (pos := pos) hu hk ho hm).sim⟩
theorem c_dnin (hu : X.A.units + 64 < cLine) (hk : SE X Y W k tk mk) (ho : SE X Y W o td md) (hm : behindInMarks .NotIn o = false := by rfl) : SC X Y W (.Compare k [.NotIn] [o] pos) (tB (tDNotIn tk td)) (cB (eDIn true mk md)) :=
  ⟨pt_cmp (pc_dnotin (by omega) hk.pe ho.pe) hm, sim_test (te := tDNotIn tk td) (s_dnin (pos := pos) hu hk ho hm).sim⟩
theorem s_dget2A (i : Nat) {x : Str} (hu : X.A.units + 64 < cLine) (hk : SE X Y W k tk mk) (hx : SE X Y W f tx mx) (hN : X.N[i]? = some x := by rfl) (hv : Vis X.env.scope x := by first | exact Or.inl rfl | exact Or.inr (Or.inl rfl) | exact Or.inr (Or.inr rfl)) (hd : (x == ("__debug__" : Str)) = false := by decide)
    (hcd : (x == ("__classdict__" : Str)) = false := by decide) (m : M2 X (.Name x p1) "get" apos k f cpos := by exact ⟨rfl, rfl, rfl, rfl⟩) : SE X Y W (.Call (.Attribute (.Name x p1) "get" apos) [k, f] [] cpos) (tDGet2 (tVar i) tk tx) (eDGet2A i mk mx) :=
  ⟨pe_dget2 (by omega) (pv i hN hv hd hcd) hk.pe hx.pe m, fun w0 H0 w H σ env S O Q st p => by
  unfold eDGet2A at p
  split at p
  · rename_i ks0 h0
    obtain ⟨v, e1⟩ := hasA_at st (dicA_has h0)
    obtain ⟨a, vs, f1, f2, f3⟩ := dicA_at st e1 h0
    refine ⟨v, e1, a, f1, .inl ⟨vs, f2⟩, hk.sim w0 H0 w H σ env S O _ st ((PostX.bind p).imp fun kd S1 w1 H1 st1 l1 p1 kv kr => hx.sim w0 H0 w1 H1 σ env S1 O _ st1 ((PostX.bind p1).imp fun xd S2 w2 H2 st2 l2 p2 xv xr => ?_))⟩
    split at p2
    · rename_i kk ks h1 h2
      obtain ⟨a', vs', g1, g2, g3⟩ := dicA_at st2 e1 h2
      rw [f1] at g1
      cases g1
      rw [rep_key kr h1]
      refine ⟨valV vs' kk, dget_rd g2, ?_⟩
      have q := g3.look kk
      refine p2 w2 H2 st2 (.refl w2) _ ?_
      cases z : lookK ks kk with
      | none => rw [z] at q; rw [q]; exact xr
      | some d =>
        rw [z] at q
        obtain ⟨u, e2, e3⟩ := q
        rw [e2]
        exact e3
    · exact False.elim p2
  · exact False.elim p⟩
theorem t_dputA (i : Nat) {x : Str} (hu : X.A.units + 64 < cLine) (hk : SE X Y W k tk mk) (he : SE X Y W e te me) (hN : X.N[i]? = some x := by rfl) (hv : Vis X.env.scope x := by first | exact Or.inl rfl | exact Or.inr (Or.inl rfl) | exact Or.inr (Or.inr rfl)) (hd : (x == ("__debug__" : Str)) = false := by decide)
    (hcd : (x == ("__classdict__" : Str)) = false := by decide) (hs : swapsWith e (some (.Subscript (.Name x p1) k pos')) pos.line X.env = pure false := by rfl) :
    SS X Y W (.Assign [.Subscript (.Name x p1) k pos'] e pos) (L2.sDPut (tVar i) tk te) (sDPutA i mk me) := ⟨ps_dput (by omega) (pv i hN hv hd hcd) hk.pe he.pe hs, fun w0 H0 w H σ env S O Dn st p => by
  refine he.sim w0 H0 w H σ env S O _ st ((PostS.out p).imp fun d S1 w1 H1 st1 l1 p1 v r => ?_)
  split at p1
  · rename_i ha
    obtain ⟨u, e1⟩ := hasA_at st1 ha
    refine ⟨u, e1, hk.sim w0 H0 w1 H1 σ env S1 O _ st1 ((PostS.out p1).imp fun kd S2 w2 H2 st2 l2 p2 kv kr => ?_)⟩
    split at p2
    · rename_i kk ks h1 h2
      split at p2
      · rename_i hz
        obtain ⟨q, f1, f2, f3, ⟨us, f4, f4'⟩, f5, f6, _⟩ := st2.own_at h2
        rw [e1] at f1
        have f1 := Option.some.inj (Option.some.inj f1)
        have hz2 : us.length < sizeLine := Nat.lt_of_lt_of_le (by rw [← f4'.len]; exact Nat.lt_succ_self _) (szB_le hz)
        rw [rep_key kr h1]
        refine ⟨q, _, f1, DPut.k f4 hz2, ?_⟩
        exact p2 w2 _ σ O (st2.mut h2 f2 ⟨_, upd_same, f4'.put_ (r.mono l2)⟩ nt_dK) (.refl w2)
      · exact False.elim p2
    · rename_i kk n h1 h2
      split at p2
      · rename_i ks hS
        split at p2
        · rename_i hz
          have hi : i < σ.length := by
            rw [← st2.l1]
            exact (List.getElem?_eq_some_iff.mp h2).1
          have hO : i < O.length := by
            rw [st2.l2]
            exact hi
          obtain ⟨_, y, ey, ry⟩ := st2.sl i (.v (.ref n)) σ[i] O[i] h2 (List.getElem?_eq_getElem hi) (List.getElem?_eq_getElem hO)
          rw [List.getElem?_eq_getElem hi, ey] at e1
          have e1 := Option.some.inj (Option.some.inj e1)
          obtain ⟨a, q1, q2⟩ := rep_ref ry
          obtain ⟨_, us, f4, f4'⟩ := st2.ok.cells.at_ n a _ q1 hS
          have hz2 : us.length < sizeLine := Nat.lt_of_lt_of_le (by rw [← f4'.len]; exact Nat.lt_succ_self _) (szB_le hz)
          rw [rep_key kr h1]
          refine ⟨a, _, by rw [← e1]; exact q2, DPut.k f4 hz2, ?_⟩
          obtain ⟨k3, f3⟩ := ok_cell (c' := .dic (putD ks kk d)) st2.ok q1 hS (o := .dK (putK us kk v)) ⟨_, upd_same, f4'.put_ (r.mono l2)⟩ nt_dK
          exact p2 w2 _ σ O (st2.after f3 k3) (.refl w2)
        · exact False.elim p2
      · exact False.elim p2
    · exact False.elim p2
  · exact False.elim p1⟩
theorem t_dput (hu : X.A.units + 64 < cLine) (ho : SE X Y W o td md) (hk : SE X Y W k tk mk) (he : SE X Y W e te me) (hs : swapsWith e (some (.Subscript o k pos')) pos.line X.env = pure false := by rfl) :
    SS X Y W (.Assign [.Subscript o k pos'] e pos) (L2.sDPut td tk te) (sDPut md mk me) := ⟨ps_dput (by omega) ho.pe hk.pe he.pe hs, fun w0 H0 w H σ env S O Dn st p => by
  refine he.sim w0 H0 w H σ env S O _ st ((PostS.out p).imp fun d S1 w1 H1 st1 l1 p1 v r => ?_)
  refine ho.sim w0 H0 w1 H1 σ env S1 O _ st1 ((PostS.out p1).imp fun od S2 w2 H2 st2 l2 p2 ov ro => ?_)
  refine hk.sim w0 H0 w2 H2 σ env S2 O _ st2 ((PostS.out p2).imp fun kd S3 w3 H3 st3 l3 p3 kv kr => ?_)
  split at p3
  · rename_i kk n h1
    split at p3
    · rename_i ks hS
      split at p3
      · rename_i hz
        obtain ⟨a, q1, q2⟩ := rep_ref (ro.mono l3)
        obtain ⟨_, us, f4, f4'⟩ := st3.ok.cells.at_ n a _ q1 hS
        have hz2 : us.length < sizeLine := Nat.lt_of_lt_of_le (by rw [← f4'.len]; exact Nat.lt_succ_self _) (szB_le hz)
        rw [rep_key kr h1]
        refine ⟨a, _, q2, DPut.k f4 hz2, ?_⟩
        obtain ⟨k3, f3⟩ := ok_cell (c' := .dic (putD ks kk d)) st3.ok q1 hS (o := .dK (putK us kk v)) ⟨_, upd_same, f4'.put_ ((r.mono l2).mono l3)⟩ nt_dK
        exact p3 w3 _ σ O (st3.after f3 k3) (.refl w3)
      · exact False.elim p3
    · exact False.elim p3
  · exact False.elim p3⟩
theorem f_dic0 : SF X Y W (.Dict [] [] pos) tDNewK fDic0 := ⟨pe_dnewK, fun w0 H0 w H σ env S O Q st p q hq => p w _ (st.lay hq nt_dK) (.refl w) q (st.own_new hq ⟨[], upd_same, RepK.nil_⟩)⟩
end
end Mm
namespace Mm
open PySem L2
def sClr (i : Nat) : MS := fun env S => match env[i]? with
  | some (.o (.lst _)) => .nx (env.set i (.o (.lst []))) S
  | _ => .stuck
end Mm
namespace Mm
open PySem L2
@[simp] theorem eIdx_eq (mo me : ME) (env : Envr) (S : Sto) : eIdx mo me env S = (mo env S).bind fun d S1 => match d with
  | .lst ds => (me env S1).bind fun k S2 => (match k with
    | .int k => (match intsOf ds with
      | some ns => if k ∈ ns then .ok (.int (ns.idxOf k : Nat)) S2 else .stuck
      | none => .stuck)
    | _ => .stuck)
  | _ => .stuck := rfl
@[simp] theorem aCat_eq (m mk : MA) (env : Envr) (S : Sto) : aCat m mk env S = (m env S).bind fun ds S1 => (mk env S1).bind fun es S2 => .ok (ds ++ es) S2 := rfl
@[simp] theorem sClr_eq (i : Nat) (env : Envr) (S : Sto) : sClr i env S = (match env[i]? with
  | some (.o (.lst _)) => .nx (env.set i (.o (.lst []))) S
  | _ => .stuck) := rfl
@[simp] theorem fDic0_eq (env : Envr) (S : Sto) : fDic0 env S = .ok (.dic []) S := rfl
@[simp] theorem d_dic (ks : List (Key × D)) : (Cell.dic ks).d = .dic ks := rfl
@[simp] theorem keyD_int (i : Int) : keyD (.int i) = some (.inl i) := rfl
@[simp] theorem keyD_str (x : Str) : keyD (.str x) = some (.inr x) := rfl
@[simp] theorem dicOf_dic (S : Sto) (ks : List (Key × D)) : dicOf S (.dic ks) = some ks := rfl
@[simp] theorem eDGetA_eq (i : Nat) (mk : ME) (env : Envr) (S : Sto) : eDGetA i mk env S = if hasA env i then (mk env S).bind fun k S1 => (match keyD k, dicA env S1 i with
  | some k, some ks => opt (lookK ks k) S1
  | _, _ => .stuck) else .stuck := rfl
@[simp] theorem eDGet_eq (md mk : ME) (env : Envr) (S : Sto) : eDGet md mk env S = (md env S).bind fun d S1 => (mk env S1).bind fun k S2 => match keyD k, dicOf S2 d with
  | some k, some ks => opt (lookK ks k) S2
  | _, _ => .stuck := rfl
@[simp] theorem eDInA_eq (neg : Bool) (mk : ME) (i : Nat) (env : Envr) (S : Sto) : eDInA neg mk i env S = (mk env S).bind fun k S1 => match keyD k, dicA env S1 i with
  | some k, some ks => .ok (.bl (if neg then !(lookK ks k).isSome else (lookK ks k).isSome)) S1
  | _, _ => .stuck := rfl
@[simp] theorem eDIn_eq (neg : Bool) (mk md : ME) (env : Envr) (S : Sto) : eDIn neg mk md env S = (mk env S).bind fun k S1 => (md env S1).bind fun d S2 => match keyD k, dicOf S2 d with
  | some k, some ks => .ok (.bl (if neg then !(lookK ks k).isSome else (lookK ks k).isSome)) S2
  | _, _ => .stuck := rfl
@[simp] theorem eDGet2A_eq (i : Nat) (mk mx : ME) (env : Envr) (S : Sto) : eDGet2A i mk mx env S = (match dicA env S i with
  | some _ => (mk env S).bind fun k S1 => (mx env S1).bind fun x S2 => (match keyD k, dicA env S2 i with
    | some k, some ks => .ok ((lookK ks k).getD x) S2
    | _, _ => .stuck)
  | none => .stuck) := rfl
@[simp] theorem sDPutA_eq (i : Nat) (mk me : ME) (env : Envr) (S : Sto) : sDPutA i mk me env S = (me env S).out env fun d S1 => if hasA env i then (mk env S1).out env fun k S2 => (match keyD k, env[i]? with
    | some k, some (.o (.dic ks)) => if szB (ks.length + 1) then .nx (env.set i (.o (.dic (putD ks k d)))) S2 else .stuck
    | some k, some (.v (.ref n)) => (match S2[n]? with
      | some (.dic ks) => if szB (ks.length + 1) then .nx env (S2.set n (.dic (putD ks k d))) else .stuck
      | _ => .stuck)
    | _, _ => .stuck) else .stuck := rfl
@[simp] theorem dicA_eq (env : Envr) (S : Sto) (i : Nat) : dicA env S i = (match env[i]? with
  | some (.o (.dic ks)) => some ks
  | some (.v d) => dicOf S d
  | _ => none) := rfl
@[simp] theorem hasA_eq (env : Envr) (i : Nat) : hasA env i = (match env[i]? with
  | some (.o (.dic _)) => true
  | some (.v _) => true
  | _ => false) := rfl
end Mm
namespace Fb
open PySem L2 Mm Gf
theorem idx_nat (k : Nat) (xs : List Nat) : (xs.map Int.ofNat).idxOf (k : Int) = xs.idxOf k := by
  induction xs with
  | nil => rfl
  | cons x xs ih =>
    rw [List.map_cons, List.idxOf_cons, List.idxOf_cons, ih]
    have e : (Int.ofNat x == (k : Int)) = (x == k) := by
      rw [Bool.eq_iff_iff, beq_iff_eq, beq_iff_eq]
      exact Int.ofNat_inj
    rw [e]
end Fb
namespace Mm
open PySem L2 Fb
abbrev LE (ns : List Int) (ss : List Sl) (c : Nat) : Envr := .v (.scr ns) :: .v (.ref 0) :: (ss ++ List.replicate c .no)
theorem law_run {N k c : Nat} {kR : MS} (ns : List Int) (hN : N = 2 + k + c) (h : ∀ b, Bx b → EX (kR (LE ns (List.replicate k .no) c) [b]) fun r _ => r = .val (.bl true)) :
    ∃ S, mFn N (sSeq (sCell 1 (fCall m__law_box [] (aCons (eV 0) aNil))) kR) [.scr ns] [] = .ok (.val (.bl true)) S := by
  obtain ⟨b, e1, hb0⟩ := box_ok ns []
  have st : startE N [D.scr ns] = .v (.scr ns) :: List.replicate (1 + k + c) .no := by
    have : N - 1 = 1 + k + c := by omega
    simp [this]
  have c0 : sCell 1 (fCall m__law_box [] (aCons (eV 0) aNil)) (.v (.scr ns) :: List.replicate (1 + k + c) .no) [] = .nx (LE ns (List.replicate k .no) c) [b] := by
    have e2 : List.replicate (1 + k + c) Sl.no = .no :: (List.replicate k .no ++ List.replicate c .no) := by
      rw [Nat.add_assoc, Nat.add_comm 1, List.replicate_succ, List.replicate_append_replicate]
    rw [e2]
    simp [e1]
  have q := RX_iff.mp (EX_fn (n := N) (m := sSeq (sCell 1 (fCall m__law_box [] (aCons (eV 0) aNil))) kR) (ds := [.scr ns]) (S := []) (Q := fun r _ => r = .val (.bl true)) (by
    refine EX_seq ?_
    rw [st, c0]
    exact h b hb0))
  obtain ⟨r, S, e, rfl⟩ := q
  exact ⟨S, e⟩
end Mm
namespace Gf
open Fb Mm
def fstL (A B : List Nat) (v : Nat) : List Nat := B.map (app (backL A v))
def swL (A : List Nat) (m : Nat) : List Nat := (kerL A).map (· >>> m)
def frL (A : List Nat) (m : Nat) : List Nat := can (swL A m)
end Gf
namespace Fb
open PySem L2 Mm Gf
def lfs (A B : List Nat) (v m l : Nat) : List (Str × D) := [("low", nd m), ("lanes", nd l), ("first", fold (fstL A B v) (m + l)), ("idle", .lst (nl (kerL A))), ("swings", .lst (nl (swL A m))), ("free", .lst (nl (frL A m)))]
def lead (A B : List Nat) (v m l : Nat) : D := .ins "Lead" (lfs A B v m l)
section
variable (A B : List Nat) (v m l : Nat)
@[simp] theorem lfs_low : (lfs A B v m l).lookup ("low" : Str) = some (nd m) := rfl
@[simp] theorem lfs_lanes : (lfs A B v m l).lookup ("lanes" : Str) = some (nd l) := rfl
@[simp] theorem lfs_first : (lfs A B v m l).lookup ("first" : Str) = some (fold (fstL A B v) (m + l)) := rfl
@[simp] theorem lfs_idle : (lfs A B v m l).lookup ("idle" : Str) = some (.lst (nl (kerL A))) := rfl
@[simp] theorem lfs_swings : (lfs A B v m l).lookup ("swings" : Str) = some (.lst (nl (swL A m))) := rfl
@[simp] theorem lfs_free : (lfs A B v m l).lookup ("free" : Str) = some (.lst (nl (frL A m))) := rfl
@[simp] theorem lfs_swing : (lfs A B v m l).lookup ("swing" : Str) = none := rfl
@[simp] theorem lfs_still : (lfs A B v m l).lookup ("still" : Str) = none := rfl
@[simp] theorem lfs_source : (lfs A B v m l).lookup ("source" : Str) = none := rfl
@[simp] theorem lfs_turnings : (lfs A B v m l).lookup ("turnings" : Str) = none := rfl
@[simp] theorem lfs_all : (lfs A B v m l).lookup ("all_sources" : Str) = none := rfl
end
theorem under_fold (n : Nat) (rs : List Nat) (w : Nat) : (fold rs w).under n := by
  unfold fold D.under ffs
  refine ⟨?_, ?_, trivial⟩
  · unfold D.under
    exact under_nl _ _
  · unfold D.under
    trivial
end Fb
namespace Mm
open PySem L2
theorem lookK_any (k : Key) : ∀ ks : List (Key × D), (ks.any fun kv => decide (kv.1 = k)) = (lookK ks k).isSome
  | [] => rfl
  | kv :: ks => by
    rw [List.any_cons, lookK_any k ks]
    by_cases e : kv.1 = k <;> simp [lookK, e]
theorem lookK_snoc (k j : Key) (d : D) : ∀ ks : List (Key × D), lookK ks k = none → lookK (ks ++ [(k, d)]) j = if j = k then some d else lookK ks j
  | [], _ => by
    by_cases e : j = k
    · simp [lookK, e]
    · have : ¬ k = j := fun z => e z.symm
      simp [lookK, e, this]
  | kv :: ks, h => by
    have h1 : ¬ kv.1 = k := fun e => by simp [lookK, e] at h
    have h2 : lookK ks k = none := by simpa [lookK, h1] using h
    have ih := lookK_snoc k j d ks h2
    unfold lookK at ih ⊢
    rw [List.cons_append, List.find?_cons, List.find?_cons]
    by_cases z : kv.1 = j
    · have : ¬ j = k := fun q => h1 (z.trans q)
      simp [z, this]
    · simp only [z, decide_false]
      exact ih
end Mm
namespace Mm
open PySem L2
def rgS (i j : Int) : Bool := rgB i && (rgB j && decide ((j - i).toNat ≤ 100000))
def fLstR1 (m : ME) : MF := fun env S => (m env S).bind fun d S1 => match d with
  | .int j => if rgS 0 j then .ok (.lst (rngD 0 (j - 0).toNat)) S1 else .stuck
  | _ => .stuck
theorem rgS_ok {i j : Int} (h : rgS i j = true) : RgOk i j := by
  unfold rgS at h
  rw [Bool.and_eq_true, Bool.and_eq_true, decide_eq_true_eq] at h
  have h1 := rgB_ok h.1
  have h2 := rgB_ok h.2.1
  exact ⟨h1.1, h1.2, h2.1, h2.2, by omega⟩
theorem rgV_rep {g : Gam} {w : Wd} (i j : Int) : RepL g w (rngD i (j - i).toNat) (rgV i j) := by
  have e1 : rngD i (j - i).toNat = ((List.range (j - i).toNat).map fun k : Nat => i + (k : Int)).map D.int := by
    unfold rngD
    rw [List.map_map]
    rfl
  have e2 : rgV i j = ((List.range (j - i).toNat).map fun k : Nat => i + (k : Int)).map V.int := by
    unfold rgV
    rw [List.map_map]
    rfl
  rw [e1, e2]
  exact RepL.ints _
section
variable {X : Cx} {Y : Gam} {W : WX} {e a b : Expr} {te ta tb : TE} {me ma mb : ME} {p pos p2 pos2 : Pos}
theorem f_lstR1 (hml : X.mg "list" = none) (hmr : X.mg "range" = none) (ha : SE X Y W a ta ma) (hc : X.calm = true := by rfl) (hgl : Gl X "list" := by rfl) (hgr : Gl X "range" := by rfl)
    (na : starEach [a] X.env = (false, eval a X.env) :: starEach [] X.env := by rfl) (ne : starEach [.Call (.Name "range" p2) [a] [] pos2] X.env = (false, eval (.Call (.Name "range" p2) [a] [] pos2) X.env) :: starEach [] X.env := by rfl) :
    SF X Y W (.Call (.Name "list" p) [.Call (.Name "range" p2) [a] [] pos2] [] pos) (tLstRg (tRg1 ta)) (fLstR1 ma) := ⟨pe_listRg hc hgl hml (prg_1 hgr hmr ha.pe na) ne, fun w0 H0 w H σ env S O Q st p =>
  ha.sim w0 H0 w H σ env S O _ st ((PostX.bind p).imp fun d S1 w1 H1 st1 l1 p1 v r => by
    cases d with
    | int j =>
      simp only [] at p1
      split at p1
      · rename_i h
        refine ⟨j, rep_int r, rgS_ok h, fun q hq => ?_⟩
        exact p1 w1 _ (st1.lay hq nt_lst) (.refl w1) q (st1.own_new hq ⟨_, upd_same, rgV_rep 0 j⟩)
      · exact False.elim p1
    | _ => exact False.elim p1)⟩
end
end Mm
namespace Mm
open PySem L2
@[simp] theorem fLstR1_eq (m : ME) (env : Envr) (S : Sto) : fLstR1 m env S = (m env S).bind fun d S1 => match d with
  | .int j => if rgS 0 j then .ok (.lst (rngD 0 (j - 0).toNat)) S1 else .stuck
  | _ => .stuck := rfl
end Mm
namespace Mm
open PySem L2
@[simp] theorem d_tdc (ks : List (List Key × Int)) : (Cell.tdc ks).d = .tdc ks := rfl
end Mm
namespace Mm
open PySem PySem.Spec PyProof.Rows L2
section
variable {g : Gam} {w0 w w' : Wd} {H0 H : Hp} {σ : L2.St} {env : Envr} {S : Sto} {O : List (Option Addr)}
def Wd.kn (w : Wd) (a : Addr) (o : HO) : Wd := ⟨w.rho, upd w.G a o⟩
theorem kn_le {a : Addr} {o : HO} (h : w.G a = none) : w.le (w.kn a o) := ⟨⟨[], by simp [Wd.kn]⟩, fun b u e => by
  show upd w.G a o b = some u
  rw [upd_ne (fun z => by rw [z, h] at e; cases e)]
  exact e⟩
theorem kn_at {a : Addr} {o : HO} : (w.kn a o).G a = some o := upd_same
end
end Mm
namespace Mm
open PySem PySem.Spec PyProof.Rows L2
theorem s_cellOf {X : Cx} {Y : Gam} {W : WX} {e : Expr} {te : TE} {mf : MF} (h : SF X Y W e te mf) : SE X Y W e te (eCellOf mf) := ⟨h.pe, fun w0 H0 w H σ env S O Q st p =>
  h.sim w0 H0 w H σ env S O _ st ((PostX.bind p).imp fun c S1 w1 H1 st1 l1 p1 q ow => by
    obtain ⟨st2, l2, r2⟩ := own_cell st1 ow
    exact p1 _ H1 st2 l2 _ r2)⟩
def NewOk (c : Str) (pop : Sto → R Ret → R D) : Prop := ∀ {g : Gam} {W : WX} {w0 w : Wd} {H0 H : Hp} {σ : L2.St} {env : Envr} {S : Sto} {O : List (Option Addr)} {Q : VK} {x dx : Addr} {r : R Ret}, StR g w0 H0 w H σ env S O → H x = none → H dx = none → dx ≠ x →
  PostX g W w0 H0 w σ env O (pop S r) (fun d _ w' H' => ∀ v, Rep g w' d v → Q v H') → PostF g ⟨w.rho ++ [x], w.G⟩ (upd (upd H dx (.own x)) x (.ins (g.ca c) dx [])) (fun v H2 => v = .non ∧ Q (.ref x) H2) (WE W σ) r
def keepI (S : Sto) (r : R Ret) : R D := match r with
  | .ok (.val .non) S2 => .ok (.ref S.length) S2
  | .exc cc p S2 => .exc cc p S2
  | _ => .stuck
theorem newOk_keep {c : Str} : NewOk c keepI := fun {g W w0 w H0 H σ env S O Q x dx r} st hx hdx ne p => by
  have at_ : ∀ {w' : Wd} {H' : Hp}, Frame ⟨w.rho ++ [x], w.G⟩ (upd (upd H dx (.own x)) x (.ins (g.ca c) dx [])) w' H' → w'.rho[S.length]? = some x := fun {w' H'} f => by
    refine f.le.get ?_
    show (w.rho ++ [x])[S.length]? = some x
    rw [← st.ok.cells.len]
    simp
  unfold keepI at p
  split at p
  · intro w' H' v f k rv
    have f2 : Frame w H w' H' := frame_inst hx hdx ne f
    refine ⟨rep_non (g := g) (w := w') rv, p w' H' (st.after f2 k) f2.le _ ?_⟩
    unfold Rep
    exact ⟨x, at_ f, rfl⟩
  · intro w' H' cls dd f k ex
    have f2 : Frame w H w' H' := frame_inst hx hdx ne f
    exact p w' H' cls dd (st.after f2 k) f2.le ex
  · exact False.elim p
def eNewP (pop : Sto → R Ret → R D) (c : Str) (mf : MFn) (dd : List D) (m : MA) : ME := fun env S => (m env S).bind fun ds S1 => pop S1 (mf (.ref S1.length :: (ds ++ dd)) (S1 ++ [.ins c []]))
def eNewC (c : Str) (mf : MFn) (dd : List D) (m : MA) : ME := eNewP keepI c mf dd m
section
variable {X : Cx} {Y : Gam} {W : WX} {e : Expr} {es : List Expr} {t tk : TA} {m mk : MA} {pos p : Pos} {x : Str} {k n : Nat} {fa C : Addr} {fd : FuncData} {ps ks : List Str} {mf : MFn} {dvs : List V} {ds : List Value} {dd : List D} {pop : Sto → R Ret → R D}
theorem new_at {g : Gam} {c : Str} {w0 w : Wd} {H0 H : Hp} {σ : L2.St} {env : Envr} {S : Sto} {O : List (Option Addr)} {Q : VK} {y dy : Addr} {ds : List D} {vs : List V} (hp : NewOk c pop) (st : StR g w0 H0 w H σ env S O) (hy : H y = none) (hdy : H dy = none) (ne : dy ≠ y) (rs : RepL g w ds vs) (hn : ds.length + 1 = n)
    (p : PostX g W w0 H0 w σ env O (pop S (mf (.ref S.length :: ds) (S ++ [.ins c []]))) (fun d _ w' H' => ∀ v, Rep g w' d v → Q v H')) : spOf g n mf (.ref y :: vs) (upd (upd H dy (.own y)) y (.ins (g.ca c) dy [])) (fun v H2 => v = .non ∧ Q (.ref y) H2) (WE W σ) := by
  obtain ⟨k4, l4⟩ := ok_inst (c := c) st.ok hy hdy ne
  have r4 : RepL g ⟨w.rho ++ [y], w.G⟩ (.ref S.length :: ds) (.ref y :: vs) := RepL.cons_ (by
    unfold Rep
    refine ⟨y, ?_, rfl⟩
    show (w.rho ++ [y])[S.length]? = some y
    rw [← st.ok.cells.len]
    simp) (rs.mono l4)
  refine ⟨?_, ⟨w.rho ++ [y], w.G⟩, _, S ++ [.ins c []], k4, r4, hp st hy hdy ne p⟩
  rw [← r4.len, List.length_cons]
  exact hn
theorem s_newP (hp : NewOk x pop) (M : Mk X.K (Y.ca x) fa) (F : FnOk X.prog X.w X.K X.mg X.base (L2N.CX X.prog X.w) k fa fd ps (spOf Y n mf)) (hr : Room (k + 1) X.A) (hm : X.mg x = some (.ref (Y.ca x))) (hb : Binds X.K fd ps ds) (hd : Vals dvs ds) (hdv : ∀ w, RepL Y w dd dvs) (tk : L2N.Takes X W)
    (ha : SA X Y W (e :: es) t m) (hn : (e :: es).length + dd.length + 1 = n := by rfl) (hg : Gl X x := by rfl) (hdb : (x == ("__debug__" : Str)) = false := by decide) (he : starEach (e :: es) X.env = (false, eval e X.env) :: starEach es X.env := by rfl) (hpl : (backTo pos (starEach es X.env)).any (·.1) = false := by rfl) :
    SE X Y W (.Call (.Name x p) (e :: es) [] pos) (tMakeS (Y.ca x) (spOf Y n mf) dvs (WE W) t) (eNewP pop x mf dd m) :=
  ⟨pe_makeS M F hr hg hm hb hd (fun σ => L2N.passAt tk σ) ha.pa hdb he hpl, fun w0 H0 w H σ env S O Q st p => by
    refine ha.sim w0 H0 w H σ env S O _ st ?_
    have p2 := PostX.bind p
    cases e : m env S with
    | stuck => rw [e] at p2; exact p2
    | exc c q S2 => rw [e] at p2; exact p2
    | ok ds S1 =>
      rw [e] at p2
      intro w1 H1 st1 l1 vs rs y dy hy hdy ne
      have p3 := p2 w1 H1 st1 l1
      exact new_at hp st1 hy hdy ne (rs.append_ (hdv w1)) (by rw [List.length_append, ha.len _ _ _ _ e]; exact hn) p3⟩
theorem u_newC (h : KnC X.prog X.w X.K X.mg X.base Y k x n mf dvs dd) (hr : Room (k + 1) X.A) (tk : L2N.Takes X W)
    (ha : SA X Y W (e :: es) t m) (hn : (e :: es).length + dd.length + 1 = n := by rfl) (hg : Gl X x := by rfl) (hdb : (x == ("__debug__" : Str)) = false := by decide) (he : starEach (e :: es) X.env = (false, eval e X.env) :: starEach es X.env := by rfl) (hpl : (backTo pos (starEach es X.env)).any (·.1) = false := by rfl) :
    SE X Y W (.Call (.Name x p) (e :: es) [] pos) (tMakeS (Y.ca x) (spOf Y n mf) dvs (WE W) t) (eNewC x mf dd m) := by
  obtain ⟨f, fd, ps, ds, F, M, hm, hb, hd, hdv⟩ := h
  exact s_newP newOk_keep M F hr hm hb hd hdv tk ha hn hg hdb he hpl
variable {CX : CXT} {sp : Sp} {E : L2.St → XK} {kws : List Keyword} {g : List Value → List Value → List Value} {gV : List V → List V → List V}
theorem run_makeNS {pins : List (Addr × Obj)} {σ : L2.St} {H : Hp} {s : Shared} {Q : VK} {us ws : List Value} {vs zs : List V} (M : Mk X.K C fa) (F : FnOk X.prog X.w X.K X.mg X.base CX k fa fd ps sp) (hr : Room (k + 1) X.A) (hb : KBn X.K fd ps (n + 1) ks g gV) (hx : PassesAt CX X σ (E σ))
    (I : Inv X pins σ H s) (r : Vals vs us) (rz : Vals zs ws) (l1 : vs.length = n) (l2 : zs.length = ks.length)
    (h : ∀ x dx, H x = none → H dx = none → dx ≠ x → sp (gV (.ref x :: vs) zs) (upd (upd H dx (.own x)) x (.ins C dx [])) (fun v H2 => v = .non ∧ Q (.ref x) H2) (E σ)) :
    wpAny (model X.prog X.w) X.A (call (.ref C) us (ks.zip ws)) (EP X pins σ Q) X.xe s := by
  have hq := h (s.heap.objs.size + 1) s.heap.objs.size (I.hok.fresh (Nat.le_succ _)) (I.hok.fresh (Nat.le_refl _)) (Nat.ne_of_lt (Nat.lt_succ_self _))
  have I2 := Inv.made (C := C) I
  have r1 : Vals (V.ref (s.heap.objs.size + 1) :: vs) (Value.ref (s.heap.objs.size + 1) :: us) := .cons rfl r
  have r2 := hb.rel r1 rz
  have n1 : (Value.ref (s.heap.objs.size + 1) :: us).length = n + 1 := by
    rw [List.length_cons, ← r.length, l1]
  refine wpAny_call (make_map (f := fa) I.kIn M.makes M.init (beq_iff_eq.mp M.fn) (codeAny_mono (F.run _ X.stack _ _ ⟨Value.ref (s.heap.objs.size + 1) :: us, ks.zip ws⟩ (g (Value.ref (s.heap.objs.size + 1) :: us) ws) _ _ (E σ) (hr.make C us (ks.zip ws))
    (I2.env0.make C us (ks.zip ws)) (hb.to _ (Value.ref (s.heap.objs.size + 1) :: us) ws I2.kIn n1 (rz.length.symm.trans l2)) r2 hq) fun r s' hq' => ?_))
  cases r with
  | error e => exact hx pins _ _ e s' I2 hq'
  | ok fl =>
    cases fl with
    | ret u =>
      obtain ⟨v, H', I3, rv, ev, q3⟩ := I2.after hq'
      subst ev
      exact ⟨rv, ⟨V.ref (s.heap.objs.size + 1), H', I3, rfl, q3⟩⟩
    | next => exact False.elim hq'
    | brk => exact False.elim hq'
    | cont => exact False.elim hq'
theorem pe_makeNS (M : Mk X.K C fa) (F : FnOk X.prog X.w X.K X.mg X.base CX k fa fd ps sp) (hr : Room (k + 1) X.A) (hg : Gl X x) (hm : X.mg x = some (.ref C)) (hb : KBn X.K fd ps (n + 1) ks g gV) (hx : ∀ σ, PassesAt CX X σ (E σ)) (ha : PA X (e :: es) t) (hkw : PK X kws tk)
    (hall : (backToKw pos (keywordEach kws X.env)).all (·.1.isSome) = true) (hks : (backToKw pos (keywordEach kws X.env)).filterMap (·.1) = ks) (hdb : (x == ("__debug__" : Str)) = false)
    (he : starEach (e :: es) X.env = (false, eval e X.env) :: starEach es X.env) (hpl : ((backTo pos (starEach (e :: es) X.env)).any (·.1) || (backToKw pos (keywordEach kws X.env)).any (·.1.isNone)) = false) :
    PE X (.Call (.Name x p) (e :: es) kws pos) (fun σ => tMakeK C n ks.length sp gV (E σ) t tk σ) := by
  refine ⟨fun pins s σ H Q I h => ?_⟩
  refine wpAny_Call_Name_kw (ld_glob I hg hm ?_ hdb)
  refine PySem.W.callWith_KW (h₀ := X.base) I.ok.mod.kin M.kp hall (thn (ha.run pos pins s σ H _ I h) fun us s1 ⟨vs, H1, I1, r, q⟩ => ?_) hpl he
  refine thn (hkw.run pos pins s1 σ H1 _ I1 q) fun ws s2 ⟨zs, H2, I2, rz, l1, l2, q2⟩ => ⟨I2.kIn, ?_⟩
  rw [hks]
  exact run_makeNS M F hr hb (hx σ) I2 r rz l1 l2 q2
end
def KnCK (P : Program) (w : World) (K : PySem.W.Frag) (mg : Str → Option Value) (base : Heap) (Y : Gam) (k : Nat) (x : Str) (n : Nat) (ks : List Str) (mf : MFn) (dvs : List V) (dd : List D) : Prop :=
  ∃ (f : Addr) (fd : FuncData) (ps : List Str) (ds : List Value), FnOk P w K mg base (L2N.CX P w) k f fd ps (spOf Y (n + ks.length + dd.length + 1) mf) ∧ Mk K (Y.ca x) f ∧ mg x = some (.ref (Y.ca x)) ∧ KBn K fd ps (n + 1) ks (fun us ws => us ++ ws ++ ds) (fun vs zs => vs ++ zs ++ dvs) ∧ ∀ w, RepL Y w dd dvs
section
variable {X : Cx} {Y : Gam} {W : WX} {e o : Expr} {es : List Expr} {ta : TE} {ma : ME} {t tk : TA} {m mk : MA} {pos p apos : Pos} {x c : Str} {k n : Nat} {mf : MFn} {kws : List Keyword} {ks : List Str} {dvs : List V} {dd : List D} {pop : Sto → R Ret → R D}
theorem s_newPK (hp : NewOk x pop) (h : KnCK X.prog X.w X.K X.mg X.base Y k x n ks mf dvs dd) (hr : Room (k + 1) X.A) (tk' : L2N.Takes X W) (ha : SA X Y W (e :: es) t m) (hk : SK X Y W kws tk mk) (hn : (e :: es).length = n := by rfl) (hnk : kws.length = ks.length := by rfl) (hg : Gl X x := by rfl)
    (hall : (backToKw pos (keywordEach kws X.env)).all (·.1.isSome) = true := by rfl) (hks : (backToKw pos (keywordEach kws X.env)).filterMap (·.1) = ks := by rfl)
    (hdb : (x == ("__debug__" : Str)) = false := by decide) (he : starEach (e :: es) X.env = (false, eval e X.env) :: starEach es X.env := by rfl)
    (hpl : ((backTo pos (starEach (e :: es) X.env)).any (·.1) || (backToKw pos (keywordEach kws X.env)).any (·.1.isNone)) = false := by rfl) :
    ∃ te, SE X Y W (.Call (.Name x p) (e :: es) kws pos) te (eNewP pop x mf dd (aCat m mk)) := by
  obtain ⟨f, fd, ps, ds, F, M, hm, hb, hdv⟩ := h
  refine ⟨_, pe_makeNS (E := WE W) M F hr hg hm hb (fun σ => L2N.passAt tk' σ) ha.pa hk.pk hall hks hdb he hpl, fun w0 H0 w H σ env S O Q st p => ?_⟩
  have p : PostX Y W w0 H0 w σ env O ((m env S).bind fun as S1 => (mk env S1).bind fun bs S2 => pop S2 (mf (.ref S2.length :: (as ++ bs ++ dd)) (S2 ++ [.ins x []]))) (fun d _ w' H' => ∀ v, Rep Y w' d v → Q v H') := by
    unfold eNewP aCat at p
    cases e1 : m env S with
    | stuck => rw [e1] at p; exact p
    | exc c q s => rw [e1] at p; exact p
    | ok d s =>
      rw [e1] at p
      have p : PostX Y W w0 H0 w σ env O (((mk env s).bind fun es S2 => R.ok (d ++ es) S2).bind fun ds S1 => pop S1 (mf (.ref S1.length :: (ds ++ dd)) (S1 ++ [.ins x []]))) (fun d _ w' H' => ∀ v, Rep Y w' d v → Q v H') := p
      show PostX Y W w0 H0 w σ env O ((mk env s).bind fun bs S2 => pop S2 (mf (.ref S2.length :: (d ++ bs ++ dd)) (S2 ++ [.ins x []]))) _
      cases e2 : mk env s with
      | stuck => rw [e2] at p; exact p
      | exc c q s => rw [e2] at p; exact p
      | ok d2 s2 => rw [e2] at p; exact p
  refine ha.sim w0 H0 w H σ env S O _ st ?_
  have p2 := PostX.bind p
  cases e : m env S with
  | stuck => rw [e] at p2; exact p2
  | exc c q S2 => rw [e] at p2; exact p2
  | ok as S1 =>
    rw [e] at p2
    intro w1 H1 st1 l1 vs rs
    have p3 := p2 w1 H1 st1 l1
    refine hk.sim w0 H0 w1 H1 σ env S1 O _ st1 ?_
    have p4 := PostX.bind p3
    cases e2 : mk env S1 with
    | stuck => rw [e2] at p4; exact p4
    | exc c q S2 => rw [e2] at p4; exact p4
    | ok bs S2 =>
      rw [e2] at p4
      intro w2 H2 st2 l2 zs rz
      have p5 := p4 w2 H2 st2 l2
      have l1' := (ha.len _ _ _ _ e).trans hn
      have l2' := (hk.len _ _ _ _ e2).trans hnk
      refine ⟨by rw [← rs.len]; exact l1', by rw [← rz.len]; exact l2', fun y dy hy hdy ne => ?_⟩
      have r2 := ((rs.mono l2).append_ rz).append_ (hdv w2)
      exact new_at hp st2 hy hdy ne r2 (by rw [List.length_append, List.length_append, l1', l2']) p5
theorem u_newCK (h : KnCK X.prog X.w X.K X.mg X.base Y k x n ks mf dvs dd) (hr : Room (k + 1) X.A) (tk' : L2N.Takes X W) (ha : SA X Y W (e :: es) t m) (hk : SK X Y W kws tk mk) (hn : (e :: es).length = n := by rfl) (hnk : kws.length = ks.length := by rfl) (hg : Gl X x := by rfl)
    (hall : (backToKw pos (keywordEach kws X.env)).all (·.1.isSome) = true := by rfl) (hks : (backToKw pos (keywordEach kws X.env)).filterMap (·.1) = ks := by rfl)
    (hdb : (x == ("__debug__" : Str)) = false := by decide) (he : starEach (e :: es) X.env = (false, eval e X.env) :: starEach es X.env := by rfl)
    (hpl : ((backTo pos (starEach (e :: es) X.env)).any (·.1) || (backToKw pos (keywordEach kws X.env)).any (·.1.isNone)) = false := by rfl) :
    SE X Y W (.Call (.Name x p) (e :: es) kws pos) (tSem X (.Call (.Name x p) (e :: es) kws pos)) (eNewC x mf dd (aCat m mk)) := by
  obtain ⟨te, s⟩ := s_newPK (p := p) newOk_keep h hr tk' ha hk hn hnk hg hall hks hdb he hpl
  exact ⟨pe_sem, fun w0 H0 w H σ env S O Q st q pins s' I => s.pe.run pins s' σ H Q I (s.sim w0 H0 w H σ env S O Q st q)⟩
end
end Mm
namespace Mm
open PySem PySem.Spec PyProof.Rows L2
section
variable {X : Cx} {Y : Gam} {W : WX} {e o k tg : Expr} {te td tk : TE} {me md mk : ME} {pos pos' p1 apos cpos : Pos}
theorem u_gstr {x z : Str} (hm : ∃ u, X.mg x = some (.str z u)) (hg : Gl X x := by rfl) (hd : (x == ("__debug__" : Str)) = false := by decide) : SE X Y W (.Name x pos) (tC (.str z)) (eC (.str z)) := by
  obtain ⟨u, hm⟩ := hm
  exact ⟨pe_glob hg hm ⟨u, rfl⟩ hd, sim_c fun _ => rep_str'⟩
def signs (z : Str) : List D := z.cps.toList.map fun c => .str ⟨#[c]⟩
def itS (me : ME) : MI := fun env S => (me env S).bind fun d S1 => match d with
  | .str z => .ok (signs z) S1
  | _ => .stuck
theorem itR_str {g : Gam} {w : Wd} {z : Str} : ItR g w (Its z) (signs z) := fun w2 H2 l x => by
  refine ⟨fun i d hd => ?_, by show z.cps.size ≤ (signs z).length; simp [signs]⟩
  have hi : i < z.cps.size := by
    have := (List.getElem?_eq_some_iff.mp hd).1
    simpa [signs] using this
  refine ⟨hi, fun y H' hy => ?_⟩
  obtain ⟨e1, c, hc, e2⟩ := hy
  subst e1 e2
  refine ⟨w2, .refl, ?_⟩
  have e3 : (signs z)[i]? = some (.str ⟨#[c]⟩) := by
    unfold signs
    rw [List.getElem?_map, Array.getElem?_toList, hc]
    rfl
  rw [hd] at e3
  cases e3
  exact rep_str'
theorem i_str (h : SE X Y W e te me) : SI X Y W tg e (iStr te) (itS me) := ⟨pi_str h.pe, fun w0 H0 w H σ env S O Q st p =>
  h.sim w0 H0 w H σ env S O _ st ((PostX.bind p).imp fun d S1 w1 H1 st1 l1 p1 v r => by
    split at p1
    · rename_i z
      exact ⟨z, rep_str r, p1 w1 H1 st1 (.refl w1) _ itR_str⟩
    · exact False.elim p1)⟩
def fInSign (neg : Bool) : Sto → D → D → Option D
  | _, .str a, .str z => (match a.cps.toList with
    | [c] => some (.bl (if neg then !decide (c ∈ z.cps.toList) else decide (c ∈ z.cps.toList)))
    | _ => none)
  | _, _, _ => none
def rSign (neg : Bool) : R2 := fun x y H Q => ∃ (c : Nat) (z : Str), x = .str ⟨#[c]⟩ ∧ y = .str z ∧ Q (.bl (if neg then !decide (c ∈ z.cps.toList) else decide (c ∈ z.cps.toList))) H
theorem or_sign : OpR X (compareOp .In) (rSign false) := fun pins s σ H x y v u Q I r1 r2 q => op_in_sign pins s σ H x y v u Q I r1 r2 q
theorem od_sign {g : Gam} {neg : Bool} : OpD g (rSign neg) (fInSign neg) := fun w H S d1 d2 v1 v2 d Q _ r1 r2 e q => by
  unfold fInSign at e
  split at e
  · rename_i a z
    split at e
    · rename_i c hc
      cases e
      have ea : a = ⟨#[c]⟩ := by
        cases a with
        | mk cps =>
          have hc : cps.toList = [c] := hc
          have : cps = #[c] := Array.toList_inj.mp hc
          rw [this]
      refine ⟨c, z, ?_, rep_str r2, q w H _ .refl rep_bl'⟩
      rw [rep_str r1, ea]
    · cases e
  · cases e
def dicU (S : Sto) : D → Option (List (Key × D))
  | .ref n => (match S[n]? with
    | some (.dic ks) => some ks
    | _ => none)
  | _ => none
theorem dicU_rep {g : Gam} {w : Wd} {H : Hp} {S : Sto} {d : D} {v : V} {ks : List (Key × D)} (k : Ok g w H S) (r : Rep g w d v) (h : dicU S d = some ks) : ∃ a vs, v = .ref a ∧ H a = some (.dK vs) ∧ RepK g w ks vs := by
  cases d with
  | ref n =>
    have h : (match S[n]? with
      | some (.dic ks) => some ks
      | _ => none) = some ks := h
    cases q : S[n]? with
    | none => rw [q] at h; cases h
    | some c =>
      rw [q] at h
      cases c with
      | dic ks' =>
        cases h
        obtain ⟨a, e1, e2⟩ := rep_ref r
        obtain ⟨_, vs, e3, e4⟩ := k.cells.at_ n a _ e1 q
        exact ⟨a, vs, e2, e3, e4⟩
      | _ => cases h
  | _ => cases h
def fLenD : Sto → List D → Option D
  | S, [d] => (dicU S d).map fun ks => .int ks.length
  | _, _ => none
theorem cd_lenD {g : Gam} : CallD g (fun xs H Q => ∃ a kvs, xs = [V.ref a] ∧ H a = some (.dK kvs) ∧ Q (.int kvs.length) H) fLenD := fun w H S ds vs d Q k r e q => by
  unfold fLenD at e
  split at e
  · rename_i d'
    obtain ⟨v, e1, e2⟩ := repL_one r
    cases z : dicU S d' with
    | none => rw [z] at e; cases e
    | some ks =>
      rw [z] at e
      cases e
      obtain ⟨a, us, x1, x2, x3⟩ := dicU_rep k e2 z
      rw [x1] at e1
      exact ⟨a, us, e1, x2, q w H _ .refl (by rw [← x3.len]; exact rep_int')⟩
  · cases e
end
abbrev FnPk (K : PySem.W.Frag) (x qual : Str) (st : Stmt) (dvs : List V) (kws : List (Str × V)) (f : Addr) (fd : FuncData) : Prop := FunD K x qual (defArgs st) (defBody st) (defScope st) dvs kws f fd
section
variable {P : Program} {w : World} {K : PySem.W.Frag} {mg : Str → Option Value} {base : Heap} {Y : Gam} {k n m : Nat} {x c qual : Str} {st : Stmt} {f : Addr} {fd : FuncData} {ps ks : List Str} {mf : MFn} {dv dvs : List V} {kws : List (Str × V)} {dd : List D}
theorem kn0_of (F : FnPk K x qual st dv kws f fd) (g : mg x = some (.ref f)) (b : ∃ ds, Vals dvs ds ∧ Binds K fd ps ds) (r : ∀ w, RepL Y w dd dvs) (h : FnOk P w K mg base (L2N.CX P w) k f fd ps (spOf Y n mf)) : Kn P w K mg base Y k x n mf dvs dd :=
  let ⟨ds, v, b⟩ := b
  ⟨f, fd, ps, ds, h, g, F.kp, b, v, r⟩
theorem knC0_of (F : FnPk K "__init__" qual st dv kws f fd) (M : Mk K (Y.ca x) f) (g : mg x = some (.ref (Y.ca x))) (b : ∃ ds, Vals dvs ds ∧ Binds K fd ps ds) (r : ∀ w, RepL Y w dd dvs) (h : FnOk P w K mg base (L2N.CX P w) k f fd ps (spOf Y n mf)) : KnC P w K mg base Y k x n mf dvs dd :=
  let ⟨ds, v, b⟩ := b
  ⟨f, fd, ps, ds, h, M, g, b, v, r⟩
theorem knK0_of (F : FnPk K x qual st dv kws f fd) (g : mg x = some (.ref f)) (b : ∃ mv, KBn K fd ps n ks (fun us ws => us ++ ws ++ mv) (fun vs zs => vs ++ zs ++ dvs)) (r : ∀ w, RepL Y w dd dvs) (h : FnOk P w K mg base (L2N.CX P w) k f fd ps (spOf Y m mf)) (hm : m = n + ks.length + dd.length := by rfl) : KnK P w K mg base Y k x n ks mf dvs dd :=
  let ⟨ds, b⟩ := b
  ⟨f, fd, ps, ds, by rw [hm] at h; exact h, g, F.kp, b, r⟩
theorem knCK_of (F : FnPk K "__init__" qual st dv kws f fd) (M : Mk K (Y.ca x) f) (g : mg x = some (.ref (Y.ca x))) (b : ∃ mv, KBn K fd ps (n + 1) ks (fun us ws => us ++ ws ++ mv) (fun vs zs => vs ++ zs ++ dvs)) (r : ∀ w, RepL Y w dd dvs) (h : FnOk P w K mg base (L2N.CX P w) k f fd ps (spOf Y m mf)) (hm : m = n + ks.length + dd.length + 1 := by rfl) : KnCK P w K mg base Y k x n ks mf dvs dd :=
  let ⟨ds, b⟩ := b
  ⟨f, fd, ps, ds, by rw [hm] at h; exact h, M, g, b, r⟩
theorem kbnAll {params : Arguments} {body : List Stmt} {scope : Scope} (F : FunD K x qual params body scope [] kws f fd) (n : Nat) (ks : List Str)
    (h : ∀ (kV doc pm : Value) (an : Option Addr) (cdv ct : Value) (us ws : List Value), us.length = n → ws.length = ks.length → bindArgs (PySem.W.fnOf x qual params body scope .none kV doc pm an cdv ct) ⟨us, ks.zip ws⟩ = pure (ps.zip (us ++ ws))) : ∃ mv, KBn K fd ps n ks (fun us ws => us ++ ws ++ mv) (fun vs zs => vs ++ zs ++ []) := ⟨[], kbn_of F n ks h⟩
end
end Mm
namespace Mm
open PySem PySem.Spec PyProof.Rows L2
def oexB (K : PySem.W.Frag) (C : Addr) : Bool := (match K.lookup C with
  | some ⟨.type "type", _, .cls cd, sl⟩ => (match cd.mro, sl.toList with
    | .ref C' :: bm, [_, _, _, _, some (.builtin n), _] => C' == C && n == "ValueError.__new__" && !cd.hasDel && cd.hasDict && PySem.HandSPX.refsVE bm
    | _, _ => false)
  | _ => false) && (He.eqO (PySem.W.findIn K (.ref C) "__setattr__") (some (some (.builtin "object.__setattr__"))) && (decide (PySem.W.subIn K (.ref C) (.type "BaseException") = some true) && (decide (PySem.W.typeIn K (.ref C) = some (.type "type")) && PySem.W.keepIn K (.ref C))))
theorem oexB_ok {K : PySem.W.Frag} {C : Addr} (q : oexB K C = true) : OexC K C := by
  obtain ⟨q, h⟩ := He.ba q
  obtain ⟨h1, h⟩ := He.ba h
  obtain ⟨h2, h⟩ := He.ba h
  obtain ⟨h3, h4⟩ := He.ba h
  refine ⟨?_, He.eqO_ok h1, of_decide_eq_true h2, of_decide_eq_true h3, h4⟩
  split at q
  · rename_i dd cd sl ho
    split at q
    · rename_i C' bm k0 k1 k2 k3 n k5 hm hs
      simp only [Bool.and_eq_true, beq_iff_eq, Bool.not_eq_true'] at q
      obtain ⟨⟨⟨⟨rfl, rfl⟩, hdel⟩, hdc⟩, ht⟩ := q
      obtain ⟨nm, bs, mro, ns, qn, hd, sn, sub, ab, col, del⟩ := cd
      dsimp only at hm hdel hdc
      subst hm hdel hdc
      have hsl : sl = #[k0, k1, k2, k3, some (.builtin "ValueError.__new__"), k5] := by
        obtain ⟨l⟩ := sl
        simp only at hs
        rw [hs]
      subst hsl
      exact ⟨nm, qn, ns, bs, bm, sn, sub, ab, col, dd, k0, k1, k2, k3, k5, ho, ht⟩
    · cases q
  · cases q
structure BasI (K : PySem.W.Frag) (B : Addr) : Prop where
  ga : PySem.W.specialIn K (.ref B) "__getattribute__" = some (some (.builtin "type.__getattribute__"))
  ty : PySem.W.typeIn K (.ref B) = some (.type "type")
  rd : PySem.W.readsIn K B (.type "type") = true
  fi : PySem.W.findCls K (.ref B) (.type "type") "__init__" = some (.val (.builtin "ValueError.__init__"))
def basB (K : PySem.W.Frag) (B : Addr) : Bool := He.eqO (PySem.W.specialIn K (.ref B) "__getattribute__") (some (some (.builtin "type.__getattribute__"))) && (decide (PySem.W.typeIn K (.ref B) = some (.type "type")) && (PySem.W.readsIn K B (.type "type") && (match PySem.W.findCls K (.ref B) (.type "type") "__init__" with | some (.val (.builtin n)) => n == "ValueError.__init__" | _ => false)))
theorem basB_ok {K : PySem.W.Frag} {B : Addr} (q : basB K B = true) : BasI K B := by
  obtain ⟨h1, h⟩ := He.ba q
  obtain ⟨h2, h⟩ := He.ba h
  obtain ⟨h3, h4⟩ := He.ba h
  refine ⟨He.eqO_ok h1, of_decide_eq_true h2, h3, ?_⟩
  split at h4
  · rename_i n e
    rw [e, beq_iff_eq.mp h4]
  · cases h4
section
variable {X : Cx} {o e : Expr} {es : List Expr} {to te : TE} {ta : TA} {f : Str} {p p' p1 p2 pos : Pos}
theorem pe_feinit {pl : Sem Bool} {x : Str} {B : Addr} (hg : Gl X x) (hm : X.mg x = some (.ref B)) (b : BasI X.K B) (ha : PA X (e :: es) ta)
    (hdb : (x == ("__debug__" : Str)) = false := by decide)
    (hc : eval (.Call (.Attribute (.Name x p1) "__init__" p2) (e :: es) [] pos) X.env = (do
      let ov ← eval (.Name x p1) X.env
      standAt p2.atName
      let (f, first) ← holding [ov] (getMethod ov "__init__" pl)
      callWith pos f first (backTo pos (starEach (e :: es) X.env)) (backToKw pos (keywordEach [] X.env))) := by rfl)
    (he : starEach (e :: es) X.env = (false, eval e X.env) :: starEach es X.env := by rfl) (hpl : (backTo pos (starEach es X.env)).any (·.1) = false := by rfl) :
    PE X (.Call (.Attribute (.Name x p1) "__init__" p2) (e :: es) [] pos) (tVeI X.K ta) := by
  refine ⟨fun pins s σ H Q I h => ?_⟩
  refine PySem.W.methodCall_KW (ld_glob I hg hm ?_ hdb) hc
  obtain ⟨m, fr⟩ := I.fr
  refine PySem.W.method_of_cls fr I.ok.mod.kin b.ga (PySem.W.cls_val fr I.ok.mod.kin b.ty b.rd b.fi (by decide +kernel) ?_)
  show wpAny _ _ (callWith pos (Value.builtin "ValueError.__init__") [] (backTo pos (starEach (e :: es) X.env)) []) _ _ _
  refine PyProof.Rows.callWith_method1 (thn (ha.run pos pins _ σ H _ (I.tok _) h) fun us s1 ⟨vs, H1, I1, r1, a, C, ws, ev, hl, T, ea, q⟩ => ?_) he hpl
  subst ev
  cases r1 with
  | @cons _ u0 _ ur ra rw' =>
    obtain rfl : u0 = Value.ref a := ra
    have hlen : ur.length ≤ sizeLine := by
      rw [← Paired.length rw', sizeLine_eq]
      omega
    exact oinit_ok T I1 ea hlen fun s' J => ⟨.non, H1, J, rfl, q⟩
theorem mk_endN {pins : List (Addr × Obj)} {σ : L2.St} {H1 H2 : Hp} {Q : XK} {hp hp2 h2 : Heap} {g1 g2 : Array GenState} {d1 d2 : Drawn} {t1 t2 : Nat} {os1 os2 : OsState} {a C d : Addr} {fs : List (Str × V)} (T : Raises X (.ref C)) (I1 : Inv X pins σ H1 ⟨hp, g1, d1, t1, os1⟩)
    (ha : hp.objs.size ≤ a) (k : ∀ b o, hp.get? b = some o → hp2.get? b = some o) (un : Un (frs X.stack) [] (upd H1 a (exo a C none)) H2 hp2 h2) (hok : HOk X.prog X.w H2 h2) (ho : os2 = os1) (hb : AllBare g2)
    (ea : H2 a = some (exo a C (some d))) (ed : H2 d = some (exd d fs)) (hd1 : H1 d = none) (q : Q (.ref C) (some d) (upd (del H2 a) d (.xd fs))) : L2N.MkP X pins σ Q (.ref a) ⟨h2, g2, d2, t2, os2⟩ := by
  obtain ⟨t0, G, J, kG, ge, hoe, na⟩ := mk_end0 (d2 := d2) (t2 := t2) I1 ha k un hok ho hb ea ed hd1
  exact ⟨a, _, _, ⟨G, g2, d2, t2, os2⟩, _, .ref C, some d, rfl, J, kG, ge, hoe, ⟨rfl, rfl, fun vs e => by cases e; rfl⟩, rfl, rfl, na, rfl, hb, T, q⟩
theorem pmk_oexN {CX : CXT} {x : Str} {C fI : Addr} {k : Nat} {fd : FuncData} {ps : List Str} {sp : Sp} {ds : List Value} {dvs : List V} (T : OexC X.K C) (iC : PySem.W.findIn X.K (.ref C) "__init__" = some (some (.ref fI))) (tI : PySem.W.typeIn X.K (.ref fI) = some (.type "function"))
    (F1 : FnOk X.prog X.w X.K X.mg X.base CX k fI fd ps sp) (hr : Room (k + 1) X.A) (hb : Binds X.K fd ps ds) (hd : Vals dvs ds) (hx : Passes CX X (fun _ _ _ => False)) (hg : Gl X x) (hm : X.mg x = some (.ref C)) (ha : PA X (e :: es) ta)
    (hdb : (x == ("__debug__" : Str)) = false := by decide) (he : starEach (e :: es) X.env = (false, eval e X.env) :: starEach es X.env := by rfl) (hpl : (backTo pos (starEach es X.env)).any (·.1) = false := by rfl) :
    L2N.PMk X (.Call (.Name x p) (e :: es) [] pos) (tMkO C sp dvs ta) := by
  intro pins s σ H Q I h
  obtain ⟨nm, q, N, bs, bm, sn, sub, ab, col, dd, k0, k1, k2, k3, k5, hC, hbm⟩ := T.cls
  refine wpAny_Call_Name_kw (ld_glob I hg hm ?_ hdb)
  refine PySem.W.callWith_K (h₀ := X.base) I.ok.mod.kin T.kC (thn (ha.run pos pins s σ H _ I h) fun us s1 ⟨vs, H1, I1, r1, hz, q1⟩ => ⟨I1.kIn, ?_⟩) he hpl
  show wpAny _ _ (call (.ref C) us) _ _ _
  obtain ⟨hp, g, dr, tk, os⟩ := s1
  have hsz : hp.objs.size ≤ hp.objs.size + 1 := Nat.le_succ _
  have hn : H1 (hp.objs.size + 1) = none := I1.hok.fresh hsz
  have hq := q1 (hp.objs.size + 1) hn
  have kk : ∀ b o, hp.get? b = some o → ((hp.push (PySem.W.kdv_tup us)).push (PySem.HandSPX.excO C hp.objs.size)).get? b = some o := fun b o e => Heap.get?_push_of_some _ (Heap.get?_push_of_some _ e)
  have hget : ((hp.push (PySem.W.kdv_tup us)).push (PySem.HandSPX.excO C hp.objs.size)).get? (hp.objs.size + 1) = some (PySem.HandSPX.excO C hp.objs.size) := by heap_get
  have I2 : Inv X pins σ (upd H1 (hp.objs.size + 1) (exo (hp.objs.size + 1) C none)) ⟨(hp.push (PySem.W.kdv_tup us)).push (PySem.HandSPX.excO C hp.objs.size), g, dr, tk, os⟩ :=
    I1.laid (t' := tk) (a := hp.objs.size + 1) (o := exo (hp.objs.size + 1) C none) (h' := (hp.push (PySem.W.kdv_tup us)).push (PySem.HandSPX.excO C hp.objs.size)) kk hsz (exo_ok hget)
  have r2 : Vals (V.ref (hp.objs.size + 1) :: (vs ++ dvs)) (Value.ref (hp.objs.size + 1) :: (us ++ ds)) := .cons rfl (r1.append hd)
  have hl : (Value.ref (hp.objs.size + 1) :: us ++ ds).length = ps.length := by
    have e := r2.length
    rw [F1.len _ _ _ _ hq] at e
    exact e.symm
  have hus : us.length ≤ sizeLine := by
    rw [← Paired.length r1, sizeLine_eq]
    omega
  refine wpAny_call (PySem.HandSPX.call_own F.excBase_ValueError (fun Y => PySem.HandSPX.refsVE_contains Y bm hbm) (I1.kIn _ _ hC) (PySem.W.looks_findIn I1.kIn iC) (fun self => PySem.W.bind_fn I1.kIn self tI) hus
    (codeAny_mono (F1.run _ X.stack _ _ ⟨Value.ref (hp.objs.size + 1) :: us, []⟩ (Value.ref (hp.objs.size + 1) :: (us ++ ds)) _ _ (fun _ _ _ => False) (hr.make C us []) (I2.env0.make C us []) (hb _ (Value.ref (hp.objs.size + 1) :: us) I2.kIn hl) r2 hq) fun r s' hq' => ?_))
  cases r with
  | error er => exact hx pins σ _ _ er s' I2 hq'
  | ok fl =>
    cases fl with
    | ret u =>
      obtain ⟨v, H2, os2, bare2, un2, hok2, rv, ev, d, fs, ea, ed, hd1, q2⟩ := hq'
      subst ev
      obtain ⟨h2, g2, d2, t2, os'⟩ := s'
      exact ⟨rv, mk_endN (raises_own T.exC T.tyC) I1 hsz kk un2 hok2 os2 bare2 ea ed hd1 q2⟩
    | next => exact False.elim hq'
    | brk => exact False.elim hq'
    | cont => exact False.elim hq'
end
def spX (K : PySem.W.Frag) (f : Str) : Sp := fun vs H Q E => ∃ a C v, vs = [.ref a, v] ∧ OexC K C ∧ PySem.W.findIn K (.ref C) f = some none ∧ H a = some (exo a C none) ∧ ∀ dx, H dx = none → dx ≠ a → Q .non (upd (upd H dx (exd dx [(f, v)])) a (exo a C (some dx)))
theorem pass_none {X : Cx} : Passes (L2N.CX X.prog X.w) X (fun _ _ _ => False) := fun pins σ H s e s' I c => by
  obtain ⟨_, _, _, _, _, _, _, _, _, _, _, _, z⟩ := c
  exact False.elim z
theorem xinit_post {K : PySem.W.Frag} {f m : Str} {N : List Str} {vs : List V} {H : Hp} {Q : VK} {E : XK} (hN : N.length = 2) (h : spX K f vs H Q E) :
    tSeq (tDrop (tVeI K (tCons (tVar 0) (tCons (tC (.str m)) tNil)))) (tOst K f (tVar 0) (tVar 1)) { nx := fun _ H' => Q .non H', rt := Q } (L2.start N vs) H := by
  obtain ⟨a, C, v, rfl, T, hf, ha, q⟩ := h
  match N, hN with
  | [n0, n1], _ =>
    exact ⟨.ref a, rfl, a, C, [.str m], rfl, (by show 1 ≤ 1000; decide), T, ha, v, rfl, .ref a, rfl, a, C, rfl, T, hf, .inl ⟨ha, q⟩⟩
structure KnF (P : Program) (w : World) (K : PySem.W.Frag) (mg : Str → Option Value) (base : Heap) (Y : Gam) (x : Str) : Prop where
  oex : OexC K (Y.ca x)
  gP : mg x = some (.ref (Y.ca x))
  noF : PySem.W.findIn K (.ref (Y.ca x)) (fldOf x) = some none
  ini : ∃ fI fd ps, PySem.W.findIn K (.ref (Y.ca x)) "__init__" = some (some (.ref fI)) ∧ PySem.W.typeIn K (.ref fI) = some (.type "function") ∧ FnOk P w K mg base (L2N.CX P w) 1 fI fd ps (spX K (fldOf x)) ∧ Binds K fd ps []
def sRaiseF (c : Str) (me : ME) : MS := fun env S => (me env S).out env fun d S1 => .exc c (some d) env S1
section
variable {X : Cx} {Y : Gam} {W : WX} {e : Expr} {te : TE} {me : ME} {p pos : Pos}
theorem u_raiseF {x : Str} {pos' : Pos} (h : KnF X.prog X.w X.K X.mg X.base Y x) (hr : Room 2 X.A) (tk : L2N.Takes X W) (he : SE X Y W e te me) (hc : X.calm = true := by rfl) (hK : X.K = Y.K := by rfl) (hg : Gl X x := by rfl) (hdb : (x == ("__debug__" : Str)) = false := by decide) (hst : starEach [e] X.env = [(false, eval e X.env)] := by rfl) (hpl : (backTo pos (starEach [] X.env)).any (·.1) = false := by rfl) :
    SS X Y W (.Raise (some (.Call (.Name x p) [e] [] pos)) none pos') (fun _ σ H => tMkO (Y.ca x) (spX X.K (fldOf x)) [] (tCons te tNil) σ H fun cls d H' => W cls d σ H') (sRaiseF x me) := by
  obtain ⟨oex, gP, noF, fI, fd, ps, iC, tI, F1, hb⟩ := h
  refine ⟨L2N.ps_raise hc tk (pmk_oexN oex iC tI F1 hr hb .nil pass_none hg gP (pa_cons he.pe pa_nil hst) hdb hst hpl), fun w0 H0 w H σ env S O Dn st q => ?_⟩
  refine he.sim w0 H0 w H σ env S O _ st ((PostS.out q).imp fun d S1 w1 H1 st1 l1 p1 v r => ?_)
  refine ⟨by show 1 ≤ 1000; decide, fun a na => ⟨a, Y.ca x, v, rfl, oex, noF, upd_same, fun dx hdx ne => ⟨rfl, dx, [(fldOf x, v)], upd_same, ?_, ?_, ?_⟩⟩⟩
  · rw [upd_ne ne, upd_same]
  · rw [← hdx, upd_ne ne]
  · have na' : H1 dx = none := by rw [← hdx, upd_ne ne]
    have eH : upd (del (upd (upd (upd H1 a (exo a (Y.ca x) none)) dx (exd dx [(fldOf x, v)])) a (exo a (Y.ca x) (some dx))) a) dx (.xd [(fldOf x, v)]) = upd H1 dx (.xd [(fldOf x, v)]) := by
      funext b
      by_cases h1 : b = dx
      · rw [h1, upd_same, upd_same]
      · rw [upd_ne h1, upd_ne h1]
        by_cases h2 : b = a
        · rw [h2, del_same, na]
        · rw [del_ne h2, upd_ne h2, upd_ne h1, upd_ne h2]
    rw [eH]
    have G := Grow.one (w := w1) (o := .xd [(fldOf x, v)]) na' (fun ps z => by cases z)
    have st2 := st1.grow G
    have l2 := G.le st1.ok
    exact p1 _ _ σ O _ _ st2 l2 ⟨rfl, dx, v, rfl, upd_same, r.mono l2⟩
end
end Mm
namespace Mm
open PySem PySem.Spec PyProof.Rows L2
def xmB (K : PySem.W.Frag) (c f : Str) : Bool := He.eqO (PySem.W.findIn K (.ref (He.ga K c)) f) (some none) && (He.eqO (PySem.W.findIn K (.ref (He.ga K c)) "__init__") (some (some (.ref (He.ma K (He.ga K c) "__init__")))) && decide (PySem.W.typeIn K (.ref (He.ma K (He.ga K c) "__init__")) = some (.type "function")))
theorem xmB_ok {K : PySem.W.Frag} {c f : Str} (h : xmB K c f = true) : PySem.W.findIn K (.ref (He.ga K c)) f = some none ∧ PySem.W.findIn K (.ref (He.ga K c)) "__init__" = some (some (.ref (He.ma K (He.ga K c) "__init__"))) ∧ PySem.W.typeIn K (.ref (He.ma K (He.ga K c) "__init__")) = some (.type "function") := by
  obtain ⟨h1, h⟩ := He.ba h
  obtain ⟨h2, h3⟩ := He.ba h
  exact ⟨He.eqO_ok h1, He.eqO_ok h2, of_decide_eq_true h3⟩
end Mm
namespace Mm
open PySem PySem.Spec PyProof.Rows L2
def strsOf : List D → Option (List Str)
  | [] => some []
  | .str x :: ds => (strsOf ds).map (x :: ·)
  | _ :: _ => none
theorem strsOf_rep {g : Gam} {w : Wd} : ∀ {ds : List D} {xs : List Str} {vs : List V}, strsOf ds = some xs → RepL g w ds vs → vs = xs.map V.str
  | [], xs, vs, e, r => by
    unfold RepL at r
    cases e
    exact r
  | .str x :: ds, xs, vs, e, r => by
    unfold strsOf at e
    cases z : strsOf ds with
    | none => rw [z] at e; cases e
    | some ys =>
      rw [z] at e
      cases e
      unfold RepL at r
      obtain ⟨v, r', e1, r1, r2⟩ := r
      unfold Rep at r1
      rw [e1, r1, strsOf_rep z r2]
      rfl
def fInX (neg : Bool) : Sto → D → D → Option D
  | _, .str i, .lst ds => (strsOf ds).map fun ns => .bl (if neg then !decide (i ∈ ns) else decide (i ∈ ns))
  | _, .str i, .tup ds => (strsOf ds).map fun ns => .bl (if neg then !decide (i ∈ ns) else decide (i ∈ ns))
  | _, _, _ => none
theorem inV_strs (i : Str) (ns : List Str) : inV (.str i) (ns.map V.str) = decide (i ∈ ns) := by
  unfold inV
  induction ns with
  | nil => simp
  | cons n ns ih =>
    rw [List.map_cons, List.any_cons, ih]
    show ((n == i) || decide (i ∈ ns)) = decide (i ∈ n :: ns)
    by_cases h : n = i
    · subst h
      simp
    · have h2 : (n == i) = false := by simpa using h
      have h3 : ¬ i = n := fun z => h z.symm
      rw [h2, Bool.false_or, decide_eq_decide, List.mem_cons]
      exact ⟨.inr, fun z => z.resolve_left h3⟩
theorem flat_strs (ns : List Str) : (ns.map V.str).all flatV = true := by
  rw [List.all_eq_true]
  intro v hv
  obtain ⟨n, _, rfl⟩ := List.mem_map.mp hv
  rfl
theorem rep_strE {g : Gam} {w : Wd} {x : Str} {v : V} (r : Rep g w (.str x) v) : v = .str x := by
  unfold Rep at r
  exact r
theorem od_inX {g : Gam} {neg : Bool} : OpD g (rIn g.K neg) (fInX neg) := fun w H S d1 d2 v1 v2 d Q k r1 r2 e q => by
  unfold fInX at e
  split at e
  · rename_i i ds
    cases z : strsOf ds with
    | none => rw [z] at e; cases e
    | some ns =>
      rw [z] at e
      cases e
      obtain ⟨a, vs, e1, e2, e3⟩ := rep_lst r2
      rw [strsOf_rep z e3] at e2
      refine ⟨a, _, e1, .inl (.inl (.inl (k.ex _ _ e2))), by rw [rep_strE r1]; rfl, flat_strs ns, q w H _ .refl ?_⟩
      rw [rep_strE r1, inV_strs]
      exact rep_bl'
  · rename_i i ds
    cases z : strsOf ds with
    | none => rw [z] at e; cases e
    | some ns =>
      rw [z] at e
      cases e
      obtain ⟨a, vs, e1, e2, e3⟩ := rep_tup r2
      rw [strsOf_rep z e3] at e2
      refine ⟨a, _, e1, .inr (same_sqT k.ex e2), by rw [rep_strE r1]; rfl, flat_strs ns, q w H _ .refl ?_⟩
      rw [rep_strE r1, inV_strs]
      exact rep_bl'
  · cases e
end Mm
namespace Mm
open PySem L2
@[simp] theorem sDPut_eq (md mk me : ME) (env : Envr) (S : Sto) : sDPut md mk me env S = (me env S).out env fun d S1 => (md env S1).out env fun o S2 => (mk env S2).out env fun k S3 => (match keyD k, o with
    | some k, .ref n => (match S3[n]? with
      | some (.dic ks) => if szB (ks.length + 1) then .nx env (S3.set n (.dic (putD ks k d))) else .stuck
      | _ => .stuck)
    | _, _ => .stuck) := rfl
@[simp] theorem dicOf_ref (S : Sto) (n : Nat) : dicOf S (.ref n) = (match S[n]? with
    | some (.dic ks) => some ks
    | some (.lck ks) => some ks
    | _ => none) := rfl
@[simp] theorem dicU_ref (S : Sto) (n : Nat) : dicU S (.ref n) = (match S[n]? with
    | some (.dic ks) => some ks
    | _ => none) := rfl
@[simp] theorem eCellOf_eq (mf : MF) (env : Envr) (S : Sto) : eCellOf mf env S = (mf env S).bind fun c S1 => .ok (.ref S1.length) (S1 ++ [c]) := rfl
@[simp] theorem eNewC_eq (c : Str) (mf : MFn) (dd : List D) (m : MA) (env : Envr) (S : Sto) : eNewC c mf dd m env S = (m env S).bind fun ds S1 => keepI S1 (mf (.ref S1.length :: (ds ++ dd)) (S1 ++ [.ins c []])) := rfl
@[simp] theorem keepI_ok (S S2 : Sto) : keepI S (.ok (.val .non) S2) = .ok (.ref S.length) S2 := rfl
@[simp] theorem keepI_exc (S S2 : Sto) (c : Str) (p : Option D) : keepI S (.exc c p S2) = .exc c p S2 := rfl
@[simp] theorem sRaiseF_eq (c : Str) (me : ME) (env : Envr) (S : Sto) : sRaiseF c me env S = (me env S).out env fun d S1 => .exc c (some d) env S1 := rfl
@[simp] theorem itS_eq (me : ME) (env : Envr) (S : Sto) : itS me env S = (me env S).bind fun d S1 => match d with
  | .str z => .ok (signs z) S1
  | _ => .stuck := rfl
@[simp] theorem fLenD_eq (S : Sto) (d : D) : fLenD S [d] = (dicU S d).map fun ks => .int ks.length := rfl
end Mm
namespace Fb
open PySem L2 Mm
noncomputable def m__law_wide : MFn := mFn 2 (sSeq (sOwn 1 (fLst (aCons (eTup (aCons (eC (.int 2)) (aCons (eC (.int 1)) (aCons (eC (.int 2)) aNil)))) (aCons (eTup (aCons (eC (.int 1)) (aCons (eC (.int 2)) (aCons (eC (.int 2)) aNil)))) (aCons (eTup (aCons (eC (.int 2)) (aCons (eC (.int 2)) (aCons (eC (.int 1)) aNil)))) (aCons (eTup (aCons (eC (.int 0)) (aCons (eC (.int 2)) (aCons (eC (.int 2)) aNil)))) (aCons (eTup (aCons (eC (.int 3)) (aCons (eC (.int 1)) (aCons (eC (.int 3)) aNil)))) aNil)))))))
    (sSeq (sExt 1 (mFrz (fLst (aCons (eTup (aCons (eC (.int 1)) (aCons (eC (.int 0)) (aCons (eC (.int 1)) aNil)))) (aCons (eTup (aCons (eC (.int 0)) (aCons (eC (.int 0)) (aCons (eC (.int 1)) aNil)))) (aCons (eTup (aCons (eC (.int 2)) (aCons (eC (.int 3)) (aCons (eC (.int 2)) aNil)))) (aCons (eTup (aCons (eC (.int 3)) (aCons (eC (.int 2)) (aCons (eC (.int 2)) aNil)))) (aCons (eTup (aCons (eC (.int 4)) (aCons (eC (.int 3)) (aCons (eC (.int 2)) aNil)))) aNil))))))))
    (sFrz 1 (sRet (eCall m__law_of [] (aCons (eV 0) (aCons (eV 1) aNil)))))))
noncomputable def m_BodyU_initU : MFn := mFn 4 (sSeq (sIf (cOr (cB (eOp iLt (eV 1) (eC (.int 0)))) (cOr (cB (eOp iGt (eV 1) (eC (.int 4)))) (cOr (cB (eOp iLt (eV 2) (eC (.int 0)))) (cOr (cB (eOp iGt (eV 2) (eC (.int 3)))) (cOr (cB (eOp iLt (eV 3) (eC (.int 1)))) (cB (eOp iGt (eV 3) (eC (.int 3))))))))) (sRaise "BadSize") sNil)
    (sSeq (sFldC "Body" "wide" (eV 0) (eTup (aCons (eV 1) (aCons (eV 2) (aCons (eV 3) aNil)))))
    (sSeq (sFldC "Body" "tables" (eV 0) (eCellOf fDic0))
    (sSeq (sFldC "Body" "store" (eV 0) (eCellOf fDic0))
    (sFldC "Body" "dues" (eV 0) (eTup (aCons (eC (.int 0)) (aCons (eC (.int 0)) aNil))))))))
noncomputable def m__law_cells : MFn := mFn 4 (sSeq (sAsg (eCall m__law_of [] (aCons (eV 0) (aCons (mFrz (fLst (aCons (eC (.int 2)) (aCons (eC (.int 10)) (aCons (eC (.int 2001)) aNil))))) aNil))) (gN 2))
    (sRet (eCB fTupOf (aCons (mFrz (fLc (itR1 (aCons (eOp iShl (eC (.int 1)) (eV 1)) aNil)) (gN 3) cYes (eOp iSub (eCall m__law_take [] (aCons (eV 0) (aCons (eV 2) aNil))) (eOp iDiv (eV 2) (eC (.int 2)))) [3])) aNil))))
noncomputable def m_is_name : MFn := mFn 2 (sRet (eAnd (eChain iLe iLe (eC (.int 1)) (eCB fLen (aCons (eV 0) aNil)) (eC (.int 6))) (eCB fAll (aCons (mFrz (fLc (itS (eV 0)) (gN 1) cYes (eOp (fInSign false) (eV 1) (eC (.str "abcdefghijklmnopqrstuvwxyz"))) [1])) aNil))))
noncomputable def m_Body_need_new : MFn := mFn 2 (sSeq (sIf (cNot (cB (eCall m_is_name [] (aCons (eV 1) aNil)))) (sRaise "BadName") sNil)
    (sSeq (sIf (cB (eDIn false (eV 1) (eFld "Body" "tables" (eV 0)))) (sRaise "Taken") sNil)
    (sIf (cB (eOp iGe (eCB fLenD (aCons (eFld "Body" "tables" (eV 0)) aNil)) (eC (.int 6)))) (sRaise "Full") sNil)))
noncomputable def m_digits_of : MFn := mFn 3 (sSeq (sAsg (eC (.int 0)) (gN 2))
    (sSeq (whL (cAnd (cB (eOp iLt (eV 2) (eV 1))) (cB (eOp iLt (eOp iShl (eC (.int 1)) (eV 2)) (eV 0)))) (sAug 2 (fun i j => i + j) (eC (.int 1))) 100)
    (sSeq (sIf (cB (eOp fNe (eOp iShl (eC (.int 1)) (eV 2)) (eV 0))) (sRaise "BadCells") sNil)
    (sRet (eV 2)))))
noncomputable def m_TableU_initU : MFn := mFn 4 (sSeq (sFldC "Table" "spread" (eV 0) (eV 1))
    (sSeq (sFldC "Table" "grip" (eV 0) (eV 2))
    (sFldC "Table" "move" (eV 0) (eV 3))))
noncomputable def m_laid : MFn := mFn 3 (sRet (eNew "Table" m_TableU_initU [.non] (aCons (eV 0) (aCons (eCB fTupOf (aCons (mFrz (fLc (itR1 (aCons (eOp iShl (eC (.int 1)) (eMeth "Fold" "many" m_Fold_many [] (eV 0) aNil)) aNil)) (gN 2) cYes (eOp fIx (eV 1) (eMeth "Fold" "to" m_Fold_to [] (eV 0) (aCons (eV 2) aNil))) [2])) aNil)) aNil))))
noncomputable def m_Body_need_spread : MFn := mFn 5 (sSeq (sIf (cOr (cB (eOp fNe (eCB fLen (aCons (eV 1) aNil)) (eOp dAdd (eOp fIx (eFld "Body" "wide" (eV 0)) (eC (.int 0))) (eOp fIx (eFld "Body" "wide" (eV 0)) (eC (.int 1)))))) (cB (eCB fAny (aCons (mFrz (fLc (itL (eV 1)) (gN 4) cYes (eOr (eOp iLt (eV 4) (eC (.int 0))) (eOp iGt (eOp iShr (eV 4) (eV 2)) (eC (.int 0)))) [4])) aNil)))) (sRaise "BadRows") sNil)
    (sSeq (sAsg (eNew "Fold" m_FoldU_initU [] (aCons (eV 1) (aCons (eV 2) aNil))) (gN 3))
    (sSeq (sIf (cNot (cB (eMeth "Fold" "onto" m_Fold_onto [] (eV 3) aNil))) (sRaise "BadRows") sNil)
    (sRet (eV 3)))))
noncomputable def m_Body_lay : MFn := mFn 6 (sSeq (sExpr (eMeth "Body" "need_new" m_Body_need_new [] (eV 0) (aCons (eV 1) aNil)))
    (sSeq (sAsg (eCall m_digits_of [] (aCons (eCB fLen (aCons (eV 3) aNil)) (aCons (eOp dAdd (eOp fIx (eFld "Body" "wide" (eV 0)) (eC (.int 0))) (eOp fIx (eFld "Body" "wide" (eV 0)) (eC (.int 1)))) aNil))) (gN 4))
    (sSeq (sIf (cB (eCB fAny (aCons (mFrz (fLc (itL (eV 3)) (gN 5) cYes (eOr (eOp iLt (eV 5) (eUn fNeg (eC (.int 1000000000)))) (eOp iGt (eV 5) (eC (.int 1000000000)))) [5])) aNil))) (sRaise "BadCells") sNil)
    (sDPut (eFld "Body" "tables" (eV 0)) (eV 1) (eCall m_laid [] (aCons (eMeth "Body" "need_spread" m_Body_need_spread [] (eV 0) (aCons (eV 2) (aCons (eV 4) aNil))) (aCons (mFrz (fCB fListOf (aCons (eV 3) aNil))) aNil)))))))
noncomputable def m_Body_need : MFn := mFn 2 (sSeq (sIf (cB (eDIn true (eV 1) (eFld "Body" "tables" (eV 0)))) (sRaiseF "NoTable" (eV 1)) sNil)
    (sRet (eDGet (eFld "Body" "tables" (eV 0)) (eV 1))))
end Fb
namespace Fb
open PySem L2 Mm Gf
theorem take1R {R : Sto} {b : Cell} (hb : Bx b) {k : Nat} (h0 : 0 < k) (h1 : k < 1073741824) : ∃ b' r, m__law_take [.ref 0, .int k] (b :: R) = .ok (.val (nd r)) (b' :: R) ∧ Bx b' ∧ r < k := take_ok (S := (b :: R)) (n := 0) rfl hb h0 h1
theorem takeKR {R : Sto} {b : Cell} (hb : Bx b) (K : Int) (k : Nat) (e : K = (k : Int)) (h0 : 0 < k) (h1 : k < 1073741824) : ∃ b' r, m__law_take [.ref 0, .int K] (b :: R) = .ok (.val (nd r)) (b' :: R) ∧ Bx b' ∧ r < k := by
  subst e
  exact take1R (R := R) hb h0 h1
theorem shuffled_okR {R : Sto} {b : Cell} (hb : Bx b) (xs : List Nat) (hl : xs.length ≤ 1000) : ∃ b' ys, m__law_shuffled [.ref 0, .lst (nl xs)] (b :: R) = .ok (.own (.lst (nl ys))) (b' :: R) ∧ Bx b' ∧ ys.Perm xs := by
  have key := forL_inv (g := gN 3) (b := sIns 2 (eCall m__law_take [] (aCons (eV 0) (aCons (eOp dAdd (eLenA 2) (eC (.int 1))) aNil))) (eV 3))
    (I := fun ds env S' => ∃ (b' : Cell) (ys rest : List Nat) (s : Sl), S' = (b' :: R) ∧ Bx b' ∧ ds = nl rest ∧ env = [.v (.ref 0), .v (.lst (nl xs)), .o (.lst (nl ys)), s] ∧ (ys ++ rest).Perm xs)
    (fun d ds env S' h => by
      obtain ⟨b', ys, rest, s, rfl, hb', e1, rfl, p⟩ := h
      cases rest with
      | nil => simp at e1
      | cons x rest =>
        simp at e1
        obtain ⟨rfl, rfl⟩ := e1
        have pl := p.length_eq
        simp at pl
        obtain ⟨b2, r, t, hb2, hr⟩ := take1R (R := R) hb' (k := ys.length + 1) (by omega) (by omega)
        have t' : m__law_take [.ref 0, .int ((ys.length : Int) + 1)] (b' :: R) = .ok (.val (nd r)) (b2 :: R) := t
        refine ⟨_, rfl, [.v (.ref 0), .v (.lst (nl xs)), .o (.lst (nl (ys.take r ++ [x] ++ ys.drop r))), .v (nd x)], (b2 :: R), .inl ?_, b2, _, rest, _, rfl, hb2, rfl, rfl, ?_⟩
        · have bd := (bBnd_iff (i := (r : Int)) (n := 9223372036854775807)).mpr (by omega)
          have sz := szB_of (n := ys.length + 1) (by omega)
          simp [t', bd, sz]
          simp [nl]
        · exact ((insert_perm ys r x).append_right rest).trans ((List.perm_middle (l₁ := ys) (l₂ := rest) (a := x)).symm.trans p)) (nl xs) [.v (.ref 0), .v (.lst (nl xs)), .o (.lst []), .no] (b :: R) ⟨b, [], xs, .no, rfl, hb, rfl, rfl, by simp⟩
  obtain ⟨e', S', k1, b', ys, rest, s, rfl, hb', e1, rfl, p⟩ := key
  have : rest = [] := by
    cases rest with
    | nil => rfl
    | cons b r => simp at e1
  subst this
  refine ⟨b', ys, ?_, hb', by simpa using p⟩
  have s0 := szB_of (n := 0) (by omega)
  simp [m__law_shuffled, s0]
  rw [k1]
  rfl
theorem numbers_okR {R : Sto} {b : Cell} (hb : Bx b) (c w : Nat) (hc : c ≤ 1000) (hw : w ≤ 20) : ∃ b' ys, m__law_numbers [.ref 0, .int c, .int w] (b :: R) = .ok (.own (.lst (nl ys))) (b' :: R) ∧ Bx b' ∧ ys.length = c ∧ ∀ y ∈ ys, y < 2 ^ w := by
  have pw := powB_nat (i := 1) (by decide) w (by omega)
  have w2 : 2 ^ w < 1073741824 := Nat.lt_of_le_of_lt (Nat.pow_le_pow_right (by decide) hw) (by decide)
  have key := lcR_inv (g := gN 3) (te := eCall m__law_take [] (aCons (eV 0) (aCons (eOp iShl (eC (.int 1)) (eV 2)) aNil))) (env := [.v (.ref 0), .v (.int c), .v (.int w), .no])
    (I := fun ds zs S' => ∃ (b' : Cell) (ys : List Nat), S' = (b' :: R) ∧ Bx b' ∧ zs = nl ys ∧ ys.length + ds.length = c ∧ ∀ y ∈ ys, y < 2 ^ w)
    (fun d ds zs S' h => by
      obtain ⟨b', ys, rfl, hb', rfl, l, lt⟩ := h
      obtain ⟨b2, r, t, hb2, hr⟩ := take1R (R := R) hb' (k := 2 ^ w) (Nat.two_pow_pos w) w2
      have t' : m__law_take [.ref 0, .int (2 ^ w)] (b' :: R) = .ok (.val (nd r)) (b2 :: R) := by
        have e5 : (2 : Int) ^ w = ((2 ^ w : Nat) : Int) := by simp
        rw [e5]
        exact t
      refine ⟨_, rfl, nd r, (b2 :: R), ?_, b2, ys ++ [r], rfl, hb2, nl_append ys [r], by simp at l ⊢; omega, fun y hy => ?_⟩
      · simp [pw, t']
      · rcases List.mem_append.mp hy with hy | hy
        · exact lt y hy
        · simp at hy
          rw [hy]
          exact hr) (nl (List.range c)) [] (b :: R) ⟨b, [], rfl, hb, rfl, by simp, fun y hy => by simp at hy⟩
  obtain ⟨zs, S', k1, b', ys, rfl, hb', e1, l, lt⟩ := key
  simp at e1 l
  subst e1
  have rg := rgB_nat (n := c) (by omega)
  have sz := szB_of (n := c) (by omega)
  refine ⟨b', ys, ?_, hb', l, lt⟩
  simp [m__law_numbers, rg, rng0, k1, l, sz]
theorem lBody1_okR {R : Sto} {b : Cell} (hb : Bx b) {n w : Nat} {ls : List Nat} (h : Lin n w ls) (hn : 1 < n) (hn2 : n ≤ 1000) (s4 s5 s6 : Sl) : ∃ b' ls' s5' s6', lBody1 [.v (.ref 0), .v (nd n), .v (nd w), .o (.lst (nl ls)), s4, s5, s6, .no, .no] (b :: R) =
    .nx [.v (.ref 0), .v (nd n), .v (nd w), .o (.lst (nl ls')), s4, s5', s6', .no, .no] (b' :: R) ∧ Bx b' ∧ Lin n w ls' := by
  obtain ⟨b1, o, t1, hb1, ho⟩ := take1R (R := R) hb (k := n) (by omega) (by omega)
  obtain ⟨b2, r, t2, hb2, hr⟩ := take1R (R := R) hb1 (k := n - 1) (by omega) (by omega)
  have t2' : m__law_take [.ref 0, .int ((n : Int) - 1)] (b1 :: R) = .ok (.val (nd r)) (b2 :: R) := by
    have e : (n : Int) - 1 = ((n - 1 : Nat) : Int) := by omega
    rw [e]
    exact t2
  obtain ⟨m1, m2⟩ := mod_ne ho hr
  have e1 : ((o : Int) + 1 + r).fmod n = (((o + 1 + r) % n : Nat) : Int) := by
    rw [← fmod_natnat]
    rfl
  have hl := h.len
  have g1 := nl_get (xs := ls) (i := o) (by omega)
  have g2 := nl_get (xs := ls) (i := (o + 1 + r) % n) (by omega)
  have ix := ixN_of (n := ls.length) (j := o) (by omega)
  have nz : ¬ n = 0 := by omega
  refine ⟨b2, ls.set o (ls.getD o 0 ^^^ ls.getD ((o + 1 + r) % n) 0), .v (nd o), .v (.int ((o : Int) + 1 + r)), ?_, hb2, h.row ho m1 m2⟩
  have g2' : atI (nl ls) (((o : Int) + 1 + r) % (n : Int)) = some (nd (ls.getD ((o + 1 + r) % n) 0)) := g2
  simp [lBody1, t1, t2', nz, e1, g1, g2', ix]
  exact nl_set _ _ _
theorem lBody2_okR {R : Sto} {b : Cell} (hb : Bx b) {n w : Nat} {ls : List Nat} (h : Lin n w ls) (hn : 1 < w) (hw : w ≤ 1000) (hn2 : n ≤ 1000) (s4 s5 s6 : Sl) : ∃ b' ls' s5' s6', lBody2 [.v (.ref 0), .v (nd n), .v (nd w), .o (.lst (nl ls)), s4, s5, s6, .no, .no] (b :: R) =
    .nx [.v (.ref 0), .v (nd n), .v (nd w), .o (.lst (nl ls')), s4, s5', s6', .no, .no] (b' :: R) ∧ Bx b' ∧ Lin n w ls' := by
  obtain ⟨b1, o, t1, hb1, ho⟩ := take1R (R := R) hb (k := w) (by omega) (by omega)
  obtain ⟨b2, r, t2, hb2, hr⟩ := take1R (R := R) hb1 (k := w - 1) (by omega) (by omega)
  have t2' : m__law_take [.ref 0, .int ((w : Int) - 1)] (b1 :: R) = .ok (.val (nd r)) (b2 :: R) := by
    have e : (w : Int) - 1 = ((w - 1 : Nat) : Int) := by omega
    rw [e]
    exact t2
  obtain ⟨m1, m2⟩ := mod_ne ho hr
  have e1 : ((o : Int) + 1 + r).fmod w = (((o + 1 + r) % w : Nat) : Int) := by
    rw [← fmod_natnat]
    rfl
  have hl := h.len
  have nz : ¬ w = 0 := by omega
  generalize hf : (o + 1 + r) % w = f at *
  have lc := lcR_map (S := (b2 :: R)) (g := gN 8) (tt := cYes) (te := eOp iXor (eV 8) (eOp iShl (eOp iAnd (eOp iShr (eV 8) (eV 5)) (eC (.int 1))) (eV 6))) (env := [.v (.ref 0), .v (nd n), .v (nd w), .v (.lst (nl ls)), s4, .v (nd o), .v (nd f), .no, .no].map hideS) (fun _ => true) (fun d => match d with
    | .int i => nd (phi o f i.toNat)
    | d => d) (nl ls) (fun d hd => by
      obtain ⟨y, hy, rfl⟩ := mem_nl.mp hd
      refine ⟨[.v (.ref 0), .v (nd n), .v (nd w), .v (.lst (nl ls)), hideS s4, .v (nd o), .v (nd f), .no, .v (nd y)], rfl, rfl, fun _ => ?_⟩
      have bb := band_one y o
      have pw := powB_nat (i := ((if y.testBit o then 1 else 0 : Nat) : Int)) (by split <;> decide) f (by omega)
      have px := phi_xorI y o f
      simp only [eOp_eq, eV_eq, eC_eq, bind_ok', iAnd_eq, iShr_eq, iShl_eq, iXor_eq, shr_nat]
      simp
      rw [bb]
      simp only [pw, if_true, opt_some', bind_ok', iXor_eq, Int.toNat_natCast]
      rw [px])
  rw [List.filter_eq_self.mpr (fun _ _ => rfl), nl_map (g := phi o f) (fun y _ => by simp)] at lc
  have sz := szB_of (n := ls.length) (by omega)
  refine ⟨b2, ls.map (phi o f), .v (nd o), .v (nd f), ?_, hb2, h.col m1 (fun e => m2 e.symm)⟩
  simp at lc
  simp [lBody2, t1, t2', nz, e1, sz, lc]
theorem lForR {R : Sto} {n w : Nat} {B : MS} (c : Prop) (hB : c → ∀ {b : Cell} (_ : Bx b) {ls : List Nat} (_ : Lin n w ls) (s4 s5 s6 : Sl), ∃ b' ls' s5' s6', B (lEnv n w ls s4 s5 s6) (b :: R) = .nx (lEnv n w ls' s4 s5' s6') (b' :: R) ∧ Bx b' ∧ Lin n w ls')
    (m : Nat) (hc : m = 0 ∨ c) {b : Cell} (hb : Bx b) {ls : List Nat} (h : Lin n w ls) (s4 s5 s6 : Sl) : ∃ b' ls' s4' s5' s6', forL (gN 4) B (nl (List.range m)) (lEnv n w ls s4 s5 s6) (b :: R) = .nx (lEnv n w ls' s4' s5' s6') (b' :: R) ∧ Bx b' ∧ Lin n w ls' := by
  have key := forL_inv (g := gN 4) (b := B) (I := fun ds env S => (ds = [] ∨ c) ∧ ∃ (b' : Cell) (ls' : List Nat) (s4' s5' s6' : Sl), S = (b' :: R) ∧ Bx b' ∧ Lin n w ls' ∧ env = lEnv n w ls' s4' s5' s6')
    (fun d ds env S h => by
      obtain ⟨hc, b', ls', s4', s5', s6', rfl, hb', hL, rfl⟩ := h
      have c' : c := hc.resolve_left (fun z => by cases z)
      obtain ⟨b2, ls2, s5'', s6'', e, hb2, hL2⟩ := hB c' hb' hL (.v d) s5' s6'
      exact ⟨lEnv n w ls' (.v d) s5' s6', rfl, _, _, .inl e, .inr c', b2, ls2, _, _, _, rfl, hb2, hL2, rfl⟩) (nl (List.range m)) (lEnv n w ls s4 s5 s6) (b :: R) ⟨by
        rcases hc with rfl | hc
        · exact .inl rfl
        · exact .inr hc, b, ls, _, _, _, rfl, hb, h, rfl⟩
  obtain ⟨e', S', k1, _, b', ls', s4', s5', s6', rfl, hb', hL, rfl⟩ := key
  exact ⟨b', ls', s4', s5', s6', k1, hb', hL⟩
theorem lItR {R : Sto} {b : Cell} (hb : Bx b) {k x i : Nat} (hk : 0 < k) (hk2 : k ≤ 1000) {env : Envr} (h0 : env[0]? = some (.v (.ref 0))) (hi : env[i]? = some (.v (nd x))) :
    ∃ b' m, itR1 (aCons (eOp iMul (eCall m__law_take [] (aCons (eV 0) (aCons (eC (nd k)) aNil))) (eCB fInt (aCons (eOp iGt (eV i) (eC (.int 1))) aNil))) aNil) env (b :: R) = .ok (nl (List.range m)) (b' :: R) ∧ Bx b' ∧ (m = 0 ∨ 1 < x) := by
  obtain ⟨b1, r, t, hb1, hr⟩ := take1R (R := R) hb (k := k) hk (by omega)
  refine ⟨b1, r * (if 1 < x then 1 else 0), ?_, hb1, ?_⟩
  · have c := cnt r x
    have mm := mulB_l (i := (r : Int)) (j := (if decide ((1 : Int) < (x : Int)) = true then 1 else 0)) (by omega)
    have le : r * (if 1 < x then 1 else 0) ≤ 100000 := by split <;> omega
    have rg := rgB_nat le
    simp only [itR1_eq, aCons_eq, aNil_eq, eOp_eq, eCall_eq, eV_eq, eC_eq, eCB_eq, h0, hi, bind_ok', List.append_nil, t, r_val, iGt_eq, opt_some', fInt_bl, iMul_eq, mm, if_true, c, rg]
    rw [Int.toNat_natCast, rng0]
  · split
    · rename_i z
      exact .inr z
    · exact .inl (by simp)
theorem lines_okR {R : Sto} {b : Cell} (hb : Bx b) {n w : Nat} (hn : n ≤ 12) (hw : w ≤ n) : ∃ b' ls, m__law_lines [.ref 0, .int n, .int w] (b :: R) = .ok (.val (.tup (nl ls))) (b' :: R) ∧ Bx b' ∧ Lin n w ls := by
  obtain ⟨b1, ys, e1, hb1, l1, lt1⟩ := numbers_okR (R := R) hb (n - w) w (by omega) (by omega)
  have e1' : m__law_numbers [.ref 0, .int ((n : Int) - w), .int w] (b :: R) = .ok (.own (.lst (nl ys))) (b1 :: R) := by
    have e : (n : Int) - w = ((n - w : Nat) : Int) := by omega
    rw [e]
    exact e1
  have L0 := Lin.plain (n := n) (w := w) l1 hw lt1
  obtain ⟨b2, zs, e2, hb2, p2⟩ := shuffled_okR (R := R) hb1 (plain w ++ ys) (by rw [L0.len]; omega)
  have L1 := L0.perm p2
  obtain ⟨b3, m, e3, hb3, c3⟩ := lItR (R := R) hb2 (k := 7) (x := n) (i := 1) (env := lEnv n w zs .no .no .no) (by decide) (by decide) rfl rfl
  obtain ⟨b4, ls4, s4, s5, s6, e4, hb4, L4⟩ := lForR (R := R) (1 < n) (fun c _ hb _ hL s4 s5 s6 => lBody1_okR (R := R) hb hL c (by omega) s4 s5 s6) m c3 hb3 L1 .no .no .no
  obtain ⟨b5, m5, e5, hb5, c5⟩ := lItR (R := R) hb4 (k := 4) (x := w) (i := 2) (env := lEnv n w ls4 s4 s5 s6) (by decide) (by decide) rfl rfl
  obtain ⟨b6, ls6, t4, t5, t6, e6, hb6, L6⟩ := lForR (R := R) (1 < w) (fun c _ hb _ hL s4 s5 s6 => lBody2_okR (R := R) hb hL c (by omega) (by omega) s4 s5 s6) m5 c5 hb5 L4 s4 s5 s6
  refine ⟨b6, ls6, ?_, hb6, L6⟩
  have rg := rgB_nat (n := w) (by omega)
  have pl := plain_lc (b :: R) n w (by omega)
  have sz := szB_of (n := w) (by omega)
  have sz2 := szB_of (n := w + ys.length) (by omega)
  have e3' : itR1 (aCons (eOp iMul (eCall m__law_take [] (aCons (eV 0) (aCons (eC (.int 7)) aNil))) (eCB fInt (aCons (eOp iGt (eV 1) (eC (.int 1))) aNil))) aNil) (lEnv n w zs .no .no .no) (b2 :: R) = _ := e3
  have e5' : itR1 (aCons (eOp iMul (eCall m__law_take [] (aCons (eV 0) (aCons (eC (.int 4)) aNil))) (eCB fInt (aCons (eOp iGt (eV 2) (eC (.int 1))) aNil))) aNil) (lEnv n w ls4 s4 s5 s6) (b4 :: R) = _ := e5
  rw [m_lines_eq]
  have a1 : (sOwn 3 (fLc (itR1 (aCons (eV 2) aNil)) (gN 7) cYes (eOp iShl (eC (.int 1)) (eV 7)) [7])) [.v (.ref 0), .v (nd n), .v (nd w), .no, .no, .no, .no, .no, .no] (b :: R) = .nx (lEnv n w (plain w) .no .no .no) (b :: R) := by
    simp [rg, rng0, pl, sz, Gf.plain_len]
  have a2 : (sOwn 3 (fCall m__law_shuffled [] (aCons (eV 0) (aCons (eOp dAdd (eV 3) (eCall m__law_numbers [] (aCons (eV 0) (aCons (eOp iSub (eV 1) (eV 2)) (aCons (eV 2) aNil))))) aNil)))) (frzAt 3 (lEnv n w (plain w) .no .no .no)) (b :: R) = .nx (lEnv n w zs .no .no .no) (b2 :: R) := by
    simp [e1', Gf.plain_len, sz2, e2]
  simp only [mFn_eq, startE_eq, sSeq_eq, sFor_eq, sFrz_eq]
  have st : ([D.ref 0, D.int n, D.int w].map Sl.v ++ List.replicate (9 - [D.ref 0, D.int n, D.int w].length) Sl.no) = [.v (.ref 0), .v (nd n), .v (nd w), .no, .no, .no, .no, .no, .no] := rfl
  rw [st, a1]
  simp only []
  rw [a2]
  simp only []
  rw [e3']
  simp only [out_ok']
  rw [e4]
  simp only []
  rw [e5']
  simp only [out_ok']
  rw [e6]
  simp
theorem ofLR {R : Sto} {b : Cell} (hb : Bx b) (xs : List D) (h0 : xs ≠ []) (hl : xs.length ≤ 1000) : ∃ b' z, m__law_of [.ref 0, .lst xs] (b :: R) = .ok (.val z) (b' :: R) ∧ Bx b' ∧ z ∈ xs := by
  have hp := List.length_pos_iff.mpr h0
  obtain ⟨b1, r, t, hb1, hr⟩ := takeKR (R := R) hb (xs.length : Int) xs.length rfl hp (by omega)
  refine ⟨b1, xs[r], ?_, hb1, List.getElem_mem hr⟩
  have e := atI_nat xs r
  rw [List.getElem?_eq_getElem hr] at e
  simp [m__law_of, t, e]
theorem shuffledDR {R : Sto} {b : Cell} (hb : Bx b) (xs : List D) (hl : xs.length ≤ 1000) : ∃ b' ys, m__law_shuffled [.ref 0, .lst xs] (b :: R) = .ok (.own (.lst ys)) (b' :: R) ∧ Bx b' ∧ ys.Perm xs := by
  have key := forL_inv (g := gN 3) (b := sIns 2 (eCall m__law_take [] (aCons (eV 0) (aCons (eOp dAdd (eLenA 2) (eC (.int 1))) aNil))) (eV 3))
    (I := fun ds env S' => ∃ (b' : Cell) (ys : List D) (s : Sl), S' = (b' :: R) ∧ Bx b' ∧ env = [.v (.ref 0), .v (.lst xs), .o (.lst ys), s] ∧ (ys ++ ds).Perm xs)
    (fun x rest env S' h => by
      obtain ⟨b', ys, s, rfl, hb', rfl, p⟩ := h
      have pl := p.length_eq
      simp at pl
      obtain ⟨b2, r, t, hb2, hr⟩ := take1R (R := R) hb' (k := ys.length + 1) (by omega) (by omega)
      have t' : m__law_take [.ref 0, .int ((ys.length : Int) + 1)] (b' :: R) = .ok (.val (nd r)) (b2 :: R) := t
      refine ⟨_, rfl, [.v (.ref 0), .v (.lst xs), .o (.lst (ys.take r ++ [x] ++ ys.drop r)), .v x], (b2 :: R), .inl ?_, b2, _, _, rfl, hb2, rfl, ?_⟩
      · have bd := (bBnd_iff (i := (r : Int)) (n := 9223372036854775807)).mpr (by omega)
        have sz := szB_of (n := ys.length + 1) (by omega)
        simp [t', bd, sz]
      · exact ((insert_permG ys r x).append_right rest).trans ((List.perm_middle (l₁ := ys) (l₂ := rest) (a := x)).symm.trans p)) xs [.v (.ref 0), .v (.lst xs), .o (.lst []), .no] (b :: R) ⟨b, [], .no, rfl, hb, rfl, by simp⟩
  obtain ⟨e', S', k1, b', ys, s, rfl, hb', rfl, p⟩ := key
  refine ⟨b', ys, ?_, hb', by simpa using p⟩
  have s0 := szB_of (n := 0) (by omega)
  simp [m__law_shuffled, s0]
  rw [k1]
  rfl
end Fb
namespace Fb
open PySem L2 Mm Gf
def small : Str := "abcdefghijklmnopqrstuvwxyz"
def nameB (x : Str) : Bool := decide (1 ≤ x.cps.size) && decide (x.cps.size ≤ 6) && x.cps.toList.all fun c => decide (c ∈ small.cps.toList)
theorem fInSign_eq (S : Sto) (c : Nat) (z : Str) : fInSign false S (.str ⟨#[c]⟩) (.str z) = some (.bl (decide (c ∈ z.cps.toList))) := rfl
theorem is_name_ok (S : Sto) (x : Str) (hx : x.cps.size ≤ 100000) : m_is_name [.str x] S = .ok (.val (.bl (nameB x))) S := by
  have hl : x.length = x.cps.size := rfl
  have sz := szB_of (n := x.cps.size) hx
  have e : ∀ (s : Sl), fLc (itS (eV 0)) (gN 1) cYes (eOp (fInSign false) (eV 1) (eC (.str "abcdefghijklmnopqrstuvwxyz"))) [1] [.v (.str x), s] S = .ok (.lst ((x.cps.toList.map fun c => decide (c ∈ small.cps.toList)).map D.bl)) S := fun s => by
    rw [List.map_map]
    refine flc_of (fun c : Nat => .str ⟨#[c]⟩) (fun c => .bl (decide (c ∈ small.cps.toList))) x.cps.toList (by simp [signs]) (by simpa using hx) fun y hy => ?_
    simp [fInSign_eq, small]
  have f1 : fLen S [.str x] = some (.int x.cps.size) := by
    show (if szB x.length then some (D.int x.length) else none) = _
    rw [hl, sz]
    rfl
  have i1 : decide ((1 : Int) ≤ (x.cps.size : Int)) = decide (1 ≤ x.cps.size) := decide_eq_decide.mpr (by omega)
  have i2 : decide ((x.cps.size : Int) ≤ 6) = decide (x.cps.size ≤ 6) := decide_eq_decide.mpr (by omega)
  unfold m_is_name
  simp only [mFn_eq, startE_eq, sRet_eq, eAnd_eq, eChain_eq, eC_eq, bind_ok', eCB_eq, aCons_eq, aNil_eq, eV_eq]
  simp [f1, i1, i2, e, -fLc_eq]
  unfold nameB
  by_cases h1 : 1 ≤ x.cps.size <;> by_cases h2 : x.cps.size ≤ 6 <;> simp [h1, h2, e, fAll_eq, -fLc_eq, -List.map_map, List.all_map, Function.comp_def]
theorem dig_go (S : Sto) (c : Int) : ∀ (n k v most : Nat), c = ((2 ^ v : Nat) : Int) → k ≤ v → v ≤ most → most ≤ 60 → v - k < n →
    whL (cAnd (cB (eOp iLt (eV 2) (eV 1))) (cB (eOp iLt (eOp iShl (eC (.int 1)) (eV 2)) (eV 0)))) (sAug 2 (fun i j => i + j) (eC (.int 1))) n [.v (.int c), .v (.int most), .v (nd k)] S = .nx [.v (.int c), .v (.int most), .v (nd v)] S
  | 0, k, v, most, _, _, _, _, h => by omega
  | n + 1, k, v, most, hc, hk, hv, hm, hn => by
    have pw := powB_nat (i := 1) (by decide) k (by omega)
    have e1 : (1 : Int) * 2 ^ k = ((2 ^ k : Nat) : Int) := by simp
    unfold whL
    by_cases h : k = v
    · subst h
      subst hc
      by_cases hh : (k : Int) < most <;> simp [hh, pw, e1]
    · have lt : 2 ^ k < 2 ^ v := Nat.pow_lt_pow_right (by decide) (by omega)
      have ih := dig_go S c n (k + 1) v most hc (by omega) hv hm (by omega)
      have h1 : (k : Int) < most := by omega
      have h2 : ((2 ^ k : Nat) : Int) < c := by rw [hc]; exact Int.ofNat_lt.mpr lt
      have h3 : (2 : Int) ^ k < c := by simpa using h2
      simp [h1, pw, h3]
      exact ih
theorem digits_ok (S : Sto) {v most : Nat} (hv : v ≤ most) (hm : most ≤ 60) (C : Int) (hC : C = ((2 ^ v : Nat) : Int)) (M : Int) (hM : M = (most : Int)) : m_digits_of [.int C, .int M] S = .ok (.val (nd v)) S := by
  subst hM
  have g := dig_go S C 100 0 v most hC (by omega) hv hm (by omega)
  have pw := powB_nat (i := 1) (by decide) v (by omega)
  have e1 : (1 : Int) * 2 ^ v = ((2 ^ v : Nat) : Int) := by simp
  have g' : whL (cAnd (cB (eOp iLt (eV 2) (eV 1))) (cB (eOp iLt (eOp iShl (eC (.int 1)) (eV 2)) (eV 0)))) (sAug 2 (fun i j => i + j) (eC (.int 1))) 100 [.v (.int C), .v (.int most), .v (.int 0)] S = .nx [.v (.int C), .v (.int most), .v (nd v)] S := g
  simp [m_digits_of]
  rw [g']
  simp [pw, hC]
def tfs (A : List Nat) (v : Nat) (gr : List Int) (mv : D) : List (Str × D) := [("spread", fold A v), ("grip", .tup (gr.map D.int)), ("move", mv)]
def tbl (A : List Nat) (v : Nat) (gr : List Int) (mv : D) : D := .ins "Table" (tfs A v gr mv)
@[simp] theorem tbl_ins (S : Sto) (A : List Nat) (v : Nat) (gr : List Int) (mv : D) : insOf "Table" S (tbl A v gr mv) = some (tfs A v gr mv) := by
  unfold tbl
  simp
@[simp] theorem tfs_spread (A : List Nat) (v : Nat) (gr : List Int) (mv : D) : (tfs A v gr mv).lookup ("spread" : Str) = some (fold A v) := rfl
@[simp] theorem tfs_grip (A : List Nat) (v : Nat) (gr : List Int) (mv : D) : (tfs A v gr mv).lookup ("grip" : Str) = some (.tup (gr.map D.int)) := rfl
@[simp] theorem tfs_move (A : List Nat) (v : Nat) (gr : List Int) (mv : D) : (tfs A v gr mv).lookup ("move" : Str) = some mv := rfl
@[simp] theorem tfs_plain (A : List Nat) (v : Nat) (gr : List Int) (mv : D) : (tfs A v gr mv).lookup ("plain" : Str) = none := rfl
@[simp] theorem tfs_now (A : List Nat) (v : Nat) (gr : List Int) (mv : D) : (tfs A v gr mv).lookup ("berth_now" : Str) = none := rfl
def grp (A : List Nat) (cs : List Int) : List Int := (List.range (2 ^ A.length)).map fun x => cs.getD (app A x) 0
def tab (A : List Nat) (v : Nat) (cs : List Int) : D := tbl A v (grp A cs) .non
theorem grp_len (A : List Nat) (cs : List Int) : (grp A cs).length = 2 ^ A.length := by simp [grp]
theorem under_tupI (n : Nat) (xs : List Int) : (D.tup (xs.map D.int)).under n := by
  unfold D.under
  exact under_ints n xs
theorem under_non (n : Nat) : D.non.under n := by unfold D.under; trivial
theorem newT_ok (S : Sto) (A : List Nat) (v : Nat) (gr : List Int) (mv : D) (u : mv.under S.length) : popI "Table" S (m_TableU_initU [.ref S.length, fold A v, .tup (gr.map D.int), mv] (S ++ [.ins "Table" []])) = .ok (tbl A v gr mv) S := by
  have run : m_TableU_initU [.ref S.length, fold A v, .tup (gr.map D.int), mv] (S ++ [.ins "Table" []]) = .ok (.val .non) (S ++ [.ins "Table" (tfs A v gr mv)]) := by
    simp [m_TableU_initU, set_last, putFD, tfs, show ¬ ("spread" : Str) = "grip" by decide, show ¬ ("spread" : Str) = "move" by decide, show ¬ ("grip" : Str) = "move" by decide]
  rw [run]
  exact popI_ok ⟨under_fold _ _ _, under_tupI _ _, u, trivial⟩
theorem atI_il {xs : List Int} {i : Nat} (h : i < xs.length) : atI (xs.map D.int) (i : Int) = some (.int (xs.getD i 0)) := by
  rw [Mm.atI_nat]
  simp [h]
theorem laid_ok (S : Sto) {A : List Nat} {v : Nat} (h : FOk A v) {cs : List Int} (hc : cs.length = 2 ^ v) (c : D) (e : c = .lst (cs.map D.int) ∨ c = .tup (cs.map D.int)) : m_laid [fold A v, c] S = .ok (.val (tab A v cs)) S := by
  have hl := h.len
  have p12 : 2 ^ A.length ≤ 2 ^ 12 := Nat.pow_le_pow_right (by decide) hl
  have p12' : 2 ^ A.length ≤ 100000 := Nat.le_trans p12 (by decide)
  have M := many_ok S A v
  have pw := powB_nat (i := 1) (by decide) A.length (by omega)
  have e1 : (1 : Int) * 2 ^ A.length = ((2 ^ A.length : Nat) : Int) := by simp
  have lc : fLc (itR1 (aCons (eOp iShl (eC (.int 1)) (eMeth "Fold" "many" m_Fold_many [] (eV 0) aNil)) aNil)) (gN 2) cYes (eOp fIx (eV 1) (eMeth "Fold" "to" m_Fold_to [] (eV 0) (aCons (eV 2) aNil))) [2] [.v (fold A v), .v c, .no] S = .ok (.lst ((grp A cs).map D.int)) S := by
    have q := flc_of (mi := itR1 (aCons (eOp iShl (eC (.int 1)) (eMeth "Fold" "many" m_Fold_many [] (eV 0) aNil)) aNil)) (te := eOp fIx (eV 1) (eMeth "Fold" "to" m_Fold_to [] (eV 0) (aCons (eV 2) aNil))) (k := 2) (vs := [2]) (env := [.v (fold A v), .v c, .no]) (S := S)
      (fun x : Nat => nd x) (fun x : Nat => .int (cs.getD (app A x) 0)) (List.range (2 ^ A.length)) (itR1_nat (by simp [M, pw]) p12') (by simpa using p12') fun y hy => by
        have hy' := List.mem_range.mp hy
        have T := to_ok S h hy'
        have lt : app A y < cs.length := by rw [hc]; exact app_lt y h.lt
        have at_ := atI_il (xs := cs) lt
        rcases e with rfl | rfl <;> simp [T, at_]
    rw [q, grp, List.map_map]
    rfl
  have nt := newT_ok S A v (grp A cs) .non (under_non _)
  unfold m_laid
  simp [lc, -fLc_eq]
  rw [nt]
  rfl
end Fb
namespace Fb
open PySem L2 Mm Gf
def bfs (n b l k : Nat) (p q : Int) : List (Str × D) := [("wide", .tup [nd b, nd l, nd k]), ("tables", .ref (n + 1)), ("store", .ref (n + 2)), ("dues", .tup [.int p, .int q])]
def bodyC (n b l k : Nat) (p q : Int) : Cell := .ins "Body" (bfs n b l k p q)
@[simp] theorem bfs_wide (n b l k : Nat) (p q : Int) : (bfs n b l k p q).lookup ("wide" : Str) = some (.tup [nd b, nd l, nd k]) := rfl
@[simp] theorem bfs_tables (n b l k : Nat) (p q : Int) : (bfs n b l k p q).lookup ("tables" : Str) = some (.ref (n + 1)) := rfl
@[simp] theorem bfs_store (n b l k : Nat) (p q : Int) : (bfs n b l k p q).lookup ("store" : Str) = some (.ref (n + 2)) := rfl
@[simp] theorem bfs_dues (n b l k : Nat) (p q : Int) : (bfs n b l k p q).lookup ("dues" : Str) = some (.tup [.int p, .int q]) := rfl
theorem bfs_no {x : Str} (h1 : x ≠ "wide") (h2 : x ≠ "tables") (h3 : x ≠ "store") (h4 : x ≠ "dues") (n b l k : Nat) (p q : Int) : (bfs n b l k p q).lookup x = none := by
  unfold bfs
  simp [List.lookup, beq_false_of_ne h1, beq_false_of_ne h2, beq_false_of_ne h3, beq_false_of_ne h4]
@[simp] theorem bfs_need (n b l k : Nat) (p q : Int) : (bfs n b l k p q).lookup ("need" : Str) = none := bfs_no (by decide) (by decide) (by decide) (by decide) _ _ _ _ _ _
@[simp] theorem bfs_need_new (n b l k : Nat) (p q : Int) : (bfs n b l k p q).lookup ("need_new" : Str) = none := bfs_no (by decide) (by decide) (by decide) (by decide) _ _ _ _ _ _
@[simp] theorem bfs_need_spread (n b l k : Nat) (p q : Int) : (bfs n b l k p q).lookup ("need_spread" : Str) = none := bfs_no (by decide) (by decide) (by decide) (by decide) _ _ _ _ _ _
@[simp] theorem bfs_lay (n b l k : Nat) (p q : Int) : (bfs n b l k p q).lookup ("lay" : Str) = none := bfs_no (by decide) (by decide) (by decide) (by decide) _ _ _ _ _ _
@[simp] theorem bfs_held (n b l k : Nat) (p q : Int) : (bfs n b l k p q).lookup ("held" : Str) = none := bfs_no (by decide) (by decide) (by decide) (by decide) _ _ _ _ _ _
structure Bd (S : Sto) (n b l k : Nat) (ts ss : List (Key × D)) (p q : Int) : Prop where
  at0 : S[n]? = some (bodyC n b l k p q)
  at1 : S[n + 1]? = some (.dic ts)
  at2 : S[n + 2]? = some (.dic ss)
section
variable {S : Sto} {n b l k : Nat} {ts ss : List (Key × D)} {p q : Int}
theorem Bd.ins (h : Bd S n b l k ts ss p q) : S[n]? = some (.ins "Body" (bfs n b l k p q)) := h.at0
theorem Bd.lt (h : Bd S n b l k ts ss p q) : n + 2 < S.length := (List.getElem?_eq_some_iff.mp h.at2).1
theorem Bd.setT (h : Bd S n b l k ts ss p q) (ts' : List (Key × D)) : Bd (S.set (n + 1) (.dic ts')) n b l k ts' ss p q := by
  have lt := h.lt
  refine ⟨?_, ?_, ?_⟩
  · rw [List.getElem?_set_ne (by omega)]; exact h.at0
  · rw [List.getElem?_set_self (by omega)]
  · rw [List.getElem?_set_ne (by omega)]; exact h.at2
theorem need_new_ok (h : Bd S n b l k ts ss p q) {x : Str} (hx : nameB x = true) (hn : lookK ts (.inr x) = none) (hl : ts.length < 6) : m_Body_need_new [.ref n, .str x] S = .ok (.val .non) S := by
  have i := h.ins
  have t := h.at1
  have sz : x.cps.size ≤ 100000 := by
    unfold nameB at hx
    simp only [Bool.and_eq_true, decide_eq_true_eq] at hx
    omega
  have nm := is_name_ok S x sz
  rw [hx] at nm
  have l6 : ¬ (6 : Int) ≤ (ts.length : Int) := by omega
  simp [m_Body_need_new, nm, i, t, hn, l6]
theorem bneed_ok (h : Bd S n b l k ts ss p q) {x : Str} {d : D} (hn : lookK ts (.inr x) = some d) : m_Body_need [.ref n, .str x] S = .ok (.val d) S := by
  have i := h.ins
  have t := h.at1
  simp [m_Body_need, i, t, hn]
theorem need_spread_ok (h : Bd S n b l k ts ss p q) {A : List Nat} {v : Nat} (hA : Lin (b + l) v A) (hd : b + l ≤ 12) (hv : v ≤ 12) (V : Int) (eV : V = (v : Int)) (a : D) (ha : a = .tup (nl A) ∨ a = .lst (nl A)) : m_Body_need_spread [.ref n, a, .int V] S = .ok (.val (fold A v)) S := by
  subst eV
  have i := h.ins
  have F : FOk A v := ⟨by rw [hA.len]; exact hd, hv, hA.lt⟩
  have hl := hA.len
  have nw := new_ok S F a ha
  have on := onto_ok S F
  have on2 : (bas A).length = v := (bas_rr A).full (fun b hb => (bas_sp A b |>.mp (.mem hb)).lt hA.lt) fun x hx => (bas_sp A x).mpr (hA.all x hx)
  have le : (A.length : Int) = (b : Int) + l := by omega
  have lc : fLc (itL (eV 1)) (gN 4) cYes (eOr (eOp iLt (eV 4) (eC (.int 0))) (eOp iGt (eOp iShr (eV 4) (eV 2)) (eC (.int 0)))) [4] [.v (.ref n), .v a, .v (.int v), .no, .no] S = .ok (.lst ((A.map fun _ => false).map D.bl)) S := by
    rw [List.map_map]
    refine flc_of nd (fun _ => .bl false) A (by rcases ha with rfl | rfl <;> simp [nl]) (by have := F.len; omega) fun y hy => ?_
    have n0 : ¬ ((y : Int) < 0) := by omega
    have e : ((y : Int) >>> v) = 0 := by
      have e : ((y : Int) >>> v) = ((y >>> v : Nat) : Int) := rfl
      rw [e, Nat.shiftRight_eq_div_pow, Nat.div_eq_of_lt (hA.lt y hy)]
      rfl
    simp [n0, e]
  have an : (A.map fun _ => false).any id = false := by simp
  have fa := fAny_eq S (A.map fun _ => false)
  rw [an] at fa
  unfold m_Body_need_spread
  rcases ha with rfl | rfl <;> (simp [i, le, lc, fa, -fLc_eq, -List.map_map]; rw [nw]; simp [on, on2])
end
end Fb
namespace Fb
open PySem L2 Mm Gf
theorem grp_at (A : List Nat) (cs : List Int) {y : Nat} (hy : y < 2 ^ A.length) : (grp A cs).getD y 0 = cs.getD (app A y) 0 := by
  simp [grp, List.getD_eq_getElem?_getD, hy]
theorem newBd_ok (S : Sto) {b l k : Nat} (hb : b ≤ 4) (hl : l ≤ 3) (hk : 1 ≤ k) (hk3 : k ≤ 3) (B L K : Int) (eB : B = (b : Int)) (eL : L = (l : Int)) (eK : K = (k : Int)) : m_BodyU_initU [.ref S.length, .int B, .int L, .int K] (S ++ [.ins "Body" []]) = .ok (.val .non) (S ++ [bodyC S.length b l k 0 0, .dic [], .dic []]) := by
  subst eB eL eK
  have h1 : ¬ (b : Int) < 0 := by omega
  have h2 : ¬ (4 : Int) < (b : Int) := by omega
  have h3 : ¬ (l : Int) < 0 := by omega
  have h4 : ¬ (3 : Int) < (l : Int) := by omega
  have h5 : ¬ (k : Int) < 1 := by omega
  have h6 : ¬ (3 : Int) < (k : Int) := by omega
  have p1 : ∀ a : D, putFD "wide" a ([] : List (Str × D)) = ([("wide", a)] : List (Str × D)) := fun _ => rfl
  have p2 : ∀ a c : D, putFD "tables" c ([("wide", a)] : List (Str × D)) = ([("wide", a), ("tables", c)] : List (Str × D)) := fun _ _ => rfl
  have p3 : ∀ a c d : D, putFD "store" d ([("wide", a), ("tables", c)] : List (Str × D)) = ([("wide", a), ("tables", c), ("store", d)] : List (Str × D)) := fun _ _ _ => rfl
  have p4 : ∀ a c d e : D, putFD "dues" e ([("wide", a), ("tables", c), ("store", d)] : List (Str × D)) = ([("wide", a), ("tables", c), ("store", d), ("dues", e)] : List (Str × D)) := fun _ _ _ _ => rfl
  have g : ∀ (a : Cell) (R : List Cell), (S ++ a :: R)[S.length]? = some a := fun a R => by simp
  have st : ∀ (a c : Cell) (R : List Cell), (S ++ a :: R).set S.length c = S ++ c :: R := fun a c R => by simp
  have s3 := szB_of (n := 3) (by omega)
  have s2 := szB_of (n := 2) (by omega)
  simp [m_BodyU_initU, s2, s3, h1, h2, h3, h4, h5, h6, st, p1, p2, p3, p4, bodyC, bfs]
section
variable {S : Sto} {n b l k : Nat} {ts ss : List (Key × D)} {p q : Int}
theorem lay_ok (h : Bd S n b l k ts ss p q) {x : Str} (hx : nameB x = true) (hn : lookK ts (.inr x) = none) (hl : ts.length < 6) {A : List Nat} {v : Nat} (hA : Lin (b + l) v A) (hd : b + l ≤ 12) (hv : v ≤ b + l) {cs : List Int} (hc : cs.length = 2 ^ v) (hz : ∀ z ∈ cs, z.natAbs ≤ 1000000000)
    (a : D) (ha : a = .tup (nl A) ∨ a = .lst (nl A)) (c : D) (ec : c = .lst (cs.map D.int) ∨ c = .tup (cs.map D.int)) : m_Body_lay [.ref n, .str x, a, c] S = .ok (.val .non) (S.set (n + 1) (.dic (putD ts (.inr x) (tab A v cs)))) := by
  have i := h.ins
  have t := h.at1
  have N := need_new_ok h hx hn hl
  have F : FOk A v := ⟨by rw [hA.len]; exact hd, by omega, hA.lt⟩
  have G := digits_ok S (v := v) (most := b + l) hv (by omega) (cs.length : Int) (by rw [hc]) ((b : Int) + l) (by omega)
  have P := need_spread_ok h hA hd (by omega) (v : Int) rfl a ha
  have L := laid_ok S F hc (.lst (cs.map D.int)) (.inl rfl)
  have p12 : 2 ^ v ≤ 2 ^ 12 := Nat.pow_le_pow_right (by decide) (by omega)
  have lc : fLc (itL (eV 3)) (gN 5) cYes (eOr (eOp iLt (eV 5) (eUn fNeg (eC (.int 1000000000)))) (eOp iGt (eV 5) (eC (.int 1000000000)))) [5] [.v (.ref n), .v (.str x), .v a, .v c, .v (nd v), .no] S = .ok (.lst ((cs.map fun _ => false).map D.bl)) S := by
    rw [List.map_map]
    refine flc_of D.int (fun _ => .bl false) cs (by rcases ec with rfl | rfl <;> simp) (by rw [hc]; exact Nat.le_trans p12 (by decide)) fun y hy => ?_
    have := hz y hy
    have n0 : ¬ (y < -1000000000) := by omega
    have n1 : ¬ (1000000000 < y) := by omega
    simp [n0, n1]
  have an : (cs.map fun _ => false).any id = false := by simp
  have fa := fAny_eq S (cs.map fun _ => false)
  rw [an] at fa
  have sz := szB_of (n := ts.length + 1) (by omega)
  have len : fLen S [c] = some (.int cs.length) := by rcases ec with rfl | rfl <;> simp
  have lo : fListOf S [c] = some (.lst (cs.map D.int)) := by rcases ec with rfl | rfl <;> simp
  unfold m_Body_lay
  simp [i, N, len, G, lc, fa, P, lo, L, t, sz, -fLc_eq, -List.map_map]
end
end Fb
namespace Mm
open PySem L2
@[simp] theorem sExt_eq (i : Nat) (me : ME) (env : Envr) (S : Sto) : sExt i me env S = (match env[i]? with
  | some (.o (.lst xs)) => (me env S).out env fun d S1 => (match d with
    | .lst ys => if szB (xs.length + ys.length) then .nx (env.set i (.o (.lst (xs ++ ys)))) S1 else .stuck
    | _ => .stuck)
  | _ => .stuck) := rfl
end Mm
namespace Fb
open PySem L2 Mm Gf
theorem wide_ok {R : Sto} {b : Cell} (hb : Bx b) : ∃ b' x y z, m__law_wide [.ref 0] (b :: R) = .ok (.val (.tup [nd x, nd y, nd z])) (b' :: R) ∧ Bx b' ∧ x ≤ 4 ∧ y ≤ 3 ∧ 1 ≤ z ∧ z ≤ 3 := by
  have s3 := szB_of (n := 3) (by omega)
  have s5 := szB_of (n := 5) (by omega)
  have s10 := szB_of (n := 10) (by omega)
  obtain ⟨b1, z, t, hb1, hz⟩ := ofLR (R := R) hb [.tup [.int 2, .int 1, .int 2], .tup [.int 1, .int 2, .int 2], .tup [.int 2, .int 2, .int 1], .tup [.int 0, .int 2, .int 2], .tup [.int 3, .int 1, .int 3], .tup [.int 1, .int 0, .int 1], .tup [.int 0, .int 0, .int 1], .tup [.int 2, .int 3, .int 2], .tup [.int 3, .int 2, .int 2], .tup [.int 4, .int 3, .int 2]] (by simp) (by simp)
  have key : m__law_wide [.ref 0] (b :: R) = .ok (.val z) (b1 :: R) := by
    simp [m__law_wide, s3, s5, s10, t]
  rw [key]
  simp only [List.mem_cons, List.not_mem_nil, or_false] at hz
  rcases hz with rfl | rfl | rfl | rfl | rfl | rfl | rfl | rfl | rfl | rfl
  · exact ⟨b1, 2, 1, 2, rfl, hb1, by decide, by decide, by decide, by decide⟩
  · exact ⟨b1, 1, 2, 2, rfl, hb1, by decide, by decide, by decide, by decide⟩
  · exact ⟨b1, 2, 2, 1, rfl, hb1, by decide, by decide, by decide, by decide⟩
  · exact ⟨b1, 0, 2, 2, rfl, hb1, by decide, by decide, by decide, by decide⟩
  · exact ⟨b1, 3, 1, 3, rfl, hb1, by decide, by decide, by decide, by decide⟩
  · exact ⟨b1, 1, 0, 1, rfl, hb1, by decide, by decide, by decide, by decide⟩
  · exact ⟨b1, 0, 0, 1, rfl, hb1, by decide, by decide, by decide, by decide⟩
  · exact ⟨b1, 2, 3, 2, rfl, hb1, by decide, by decide, by decide, by decide⟩
  · exact ⟨b1, 3, 2, 2, rfl, hb1, by decide, by decide, by decide, by decide⟩
  · exact ⟨b1, 4, 3, 2, rfl, hb1, by decide, by decide, by decide, by decide⟩
theorem cells_lc {R : Sto} {tp : Nat} (h0 : 0 < tp) (h1 : tp ≤ 5000) {env : Envr} (e0 : env[0]? = some (.v (.ref 0))) (e2 : env[2]? = some (.v (nd tp))) (hk : 3 < env.length) : ∀ (ds : List D) {b : Cell}, Bx b → ∃ (b' : Cell) (cs : List Int), lcR (gN 3) cYes (eOp iSub (eCall m__law_take [] (aCons (eV 0) (aCons (eV 2) aNil))) (eOp iDiv (eV 2) (eC (.int 2)))) env ds (b :: R) = .ok (cs.map D.int) (b' :: R) ∧ Bx b' ∧ cs.length = ds.length ∧ ∀ z ∈ cs, z.natAbs ≤ 5000
  | [], b, hb => ⟨b, [], rfl, hb, rfl, by simp⟩
  | d :: ds, b, hb => by
    obtain ⟨b1, r, t, hb1, hr⟩ := takeKR (R := R) hb (tp : Int) tp rfl h0 (by omega)
    obtain ⟨b2, cs, e, hb2, hl, hz⟩ := cells_lc (R := R) h0 h1 e0 e2 hk ds hb1
    have f0 : (env.set 3 (.v d))[0]? = some (.v (.ref 0)) := by rw [List.getElem?_set_ne (by omega)]; exact e0
    have f2 : (env.set 3 (.v d))[2]? = some (.v (nd tp)) := by rw [List.getElem?_set_ne (by omega)]; exact e2
    have dv := divB_of (i := (tp : Int)) (k := 2) (by omega) (by omega)
    have dv' : divB (tp : Int) 2 = true := dv
    have q : (tp : Int).fdiv 2 = ((tp / 2 : Nat) : Int) := by
      rw [Int.fdiv_eq_ediv_of_nonneg _ (by omega)]
      rfl
    refine ⟨b2, ((r : Int) - ((tp / 2 : Nat) : Int)) :: cs, ?_, hb2, by simp [hl], fun z hz' => ?_⟩
    · unfold lcR
      simp only [gN_eq, cYes_eq, eOp_eq, eCall_eq, aCons_eq, aNil_eq, eV_eq, f0, f2, bind_ok', List.append_nil, t, r_val, eC_eq, iDiv_eq, iSub_eq]
      simp [t, f0, f2, dv', q, e]
    · rcases List.mem_cons.mp hz' with rfl | hz'
      · omega
      · exact hz z hz'
theorem cells_ok {R : Sto} {b : Cell} (hb : Bx b) {v : Nat} (hv : v ≤ 12) (V : Int) (eV : V = (v : Int)) : ∃ (b' : Cell) (cs : List Int), m__law_cells [.ref 0, .int V] (b :: R) = .ok (.val (.tup (cs.map D.int))) (b' :: R) ∧ Bx b' ∧ cs.length = 2 ^ v ∧ ∀ z ∈ cs, z.natAbs ≤ 5000 := by
  subst eV
  have s3 := szB_of (n := 3) (by omega)
  obtain ⟨b1, z, t, hb1, hz⟩ := ofLR (R := R) hb [.int 2, .int 10, .int 2001] (by simp) (by simp)
  obtain ⟨tp, rfl, h0, h1⟩ : ∃ tp : Nat, z = nd tp ∧ 0 < tp ∧ tp ≤ 5000 := by
    simp only [List.mem_cons, List.not_mem_nil, or_false] at hz
    rcases hz with rfl | rfl | rfl
    · exact ⟨2, rfl, by omega, by omega⟩
    · exact ⟨10, rfl, by omega, by omega⟩
    · exact ⟨2001, rfl, by omega, by omega⟩
  have p12 : 2 ^ v ≤ 100000 := Nat.le_trans (Nat.pow_le_pow_right (by decide) hv) (by decide : 2 ^ 12 ≤ 100000)
  obtain ⟨b2, cs, e, hb2, hl, hz⟩ := cells_lc (R := R) h0 h1 (env := [.v (.ref 0), .v (.int v), .v (nd tp), .no]) rfl rfl (by simp) (nl (List.range (2 ^ v))) hb1
  refine ⟨b2, cs, ?_, hb2, by simpa using hl, hz⟩
  have pw := powB_nat (i := 1) (by decide) v (by omega)
  have sz := szB_of (n := cs.length) (by rw [hl]; simpa using p12)
  have it : itR1 (aCons (eOp iShl (eC (.int 1)) (eV 1)) aNil) [.v (.ref 0), .v (.int v), .v (nd tp), .no] (b1 :: R) = .ok (nl (List.range (2 ^ v))) (b1 :: R) := itR1_nat (by simp [pw]) p12
  unfold m__law_cells
  simp [s3, t, -itR1_eq]
  rw [it]
  simp [e, sz]
end Fb
namespace Fb
open PySem L2 Mm Gf
def St (b : Cell) (x y z : Nat) (p q : Int) (ts ss : List (Key × D)) : Sto := [b, bodyC 1 x y z p q, .dic ts, .dic ss]
section
variable {b : Cell} {x y z : Nat} {p q : Int} {ts ss : List (Key × D)}
@[simp] theorem St_len : (St b x y z p q ts ss).length = 4 := rfl
@[simp] theorem St_0 : (St b x y z p q ts ss)[0]? = some b := rfl
@[simp] theorem St_1 : (St b x y z p q ts ss)[1]? = some (.ins "Body" (bfs 1 x y z p q)) := rfl
@[simp] theorem St_2 : (St b x y z p q ts ss)[2]? = some (.dic ts) := rfl
@[simp] theorem St_3 : (St b x y z p q ts ss)[3]? = some (.dic ss) := rfl
end
end Fb
namespace Fb
open PySem L2 Mm Gf
def mixI (w : Str) (a b : Int) : Int := if w = "plus" then a + b else if w = "less" then a - b else if w = "least" then (if b < a then b else a) else (if a < b then b else a)
theorem flc_ofG {β : Type} {mi : MI} {g : MG} {te : ME} {vs : List Nat} {env : Envr} {S : Sto} (ψ φ : β → D) (xs : List β) (h1 : mi env S = .ok (xs.map ψ) S) (hz : xs.length ≤ 100000) (h2 : ∀ y ∈ xs, ∃ e1, g (ψ y) (wipeE env vs) = some e1 ∧ te e1 S = .ok (φ y) S) : fLc mi g cYes te vs env S = .ok (.lst (xs.map φ)) S := by
  have lc := lc_all (g := g) (te := te) (env := wipeE env vs) (S := S) ψ φ xs h2
  rw [fLc_eq, h1, bind_ok', lc, bind_ok', fin_eq, if_pos (szB_of (by simpa using hz))]
end Fb
namespace Fb
open PySem L2 Mm Gf
noncomputable def tt1 : MS := sSeq (sApp 2 (eIf (cB (eOp (fIn false) (eV 4) (eV 1))) (eC (.int 0)) (eOp iShl (eC (.int 1)) (eV 3)))) (sAug 3 (fun i j => i + j) (eIf (cB (eOp (fIn false) (eV 4) (eV 1))) (eC (.int 0)) (eC (.int 1))))
end Fb
namespace Fb
open PySem L2 Mm Gf
def sm (n : Nat) (p : Nat → Bool) (f : Nat → Int) : Int := (((List.range n).filter p).map f).sum
end Fb
namespace Fb
open PySem L2 Mm Gf
theorem intsOf_map (xs : List Int) : intsOf (xs.map D.int) = some xs := by
  induction xs with
  | nil => rfl
  | cons x xs ih =>
    rw [List.map_cons]
    unfold intsOf
    rw [ih]
    rfl
theorem fSum_l (S : Sto) (xs : List Int) (hz : xs.length ≤ 100000) : fSum S [.lst (xs.map D.int)] = some (.int xs.sum) := by
  unfold fSum
  simp [intsOf_map]
end Fb
namespace Mm
open PySem PySem.Spec PyProof.Rows L2
def keyV : Key → D
  | .inl i => .int i
  | .inr x => .str x
theorem rep_keyV {g : Gam} {w : Wd} (k : Key) : Rep g w (keyV k) (kV k) := by
  cases k with
  | inl i => exact rep_int'
  | inr x => exact rep_str'
end Mm
namespace Mm
open PySem PySem.Spec PyProof.Rows L2
section
variable {X : Cx} {Y : Gam} {W : WX} {e a o : Expr} {es : List Expr} {te : TE} {me : ME} {pos p apos cpos : Pos}
def eFmt (m : ME) : ME := fun env S => (m env S).bind fun d S1 => match d with
  | .str y => if szB y.length then .ok (.str y) S1 else .stuck
  | .int i => if decide (i.natAbs.log2 < 1920) then .ok (.str (toString i)) S1 else .stuck
  | _ => .stuck
theorem s_fmt (he : SE X Y W e te me) : SE X Y W (.FormattedValue e (-1) none pos) (tFmt te) (eFmt me) := ⟨pe_fmt he.pe, fun w0 H0 w H σ env S O Q st p =>
  he.sim w0 H0 w H σ env S O _ st ((PostX.bind p).imp fun d S1 w1 H1 st1 l1 p1 v r => by
    cases d with
    | str y =>
      have p1 : PostX Y W w0 H0 w1 σ env O (if szB y.length then R.ok (D.str y) S1 else .stuck) _ := p1
      split at p1
      · rename_i z
        exact .inl ⟨y, rep_str r, szB_le z, p1 w1 H1 st1 (.refl w1) _ rep_str'⟩
      · exact False.elim p1
    | int i =>
      have p1 : PostX Y W w0 H0 w1 σ env O (if decide (i.natAbs.log2 < 1920) then R.ok (D.str (toString i)) S1 else .stuck) _ := p1
      split at p1
      · rename_i z
        exact .inr ⟨i, rep_int r, of_decide_eq_true z, p1 w1 H1 st1 (.refl w1) _ rep_str'⟩
      · exact False.elim p1
    | _ => exact False.elim p1)⟩
def eFs : List ME → Str → ME
  | [], acc => fun _ S => .ok (.str acc) S
  | m :: ms, acc => fun env S => (m env S).bind fun d S1 => match d with
    | .str y => if szB (acc ++ y).length then eFs ms (acc ++ y) env S1 else .stuck
    | _ => .stuck
structure SJs (X : Cx) (Y : Gam) (W : WX) (es : List Expr) (ts : List TE) (ms : List ME) : Prop where
  pj : PJ X es ts
  sim : ∀ (acc : Str) w0 H0 w H σ env S O (Q : Str → Hp → Prop), StR Y w0 H0 w H σ env S O → PostX Y W w0 H0 w σ env O (eFs ms acc env S) (fun d _ _ H' => ∀ x, d = .str x → Q x H') → tJs ts acc σ H Q
theorem sj_nil : SJs X Y W [] [] [] := ⟨.nil, fun acc w0 H0 w H σ env S O Q st p => p w H st (.refl w) acc rfl⟩
theorem sj_cons {ts : List TE} {ms : List ME} (he : SE X Y W e te me) (hr : SJs X Y W es ts ms) : SJs X Y W (e :: es) (te :: ts) (me :: ms) := ⟨.cons he.pe hr.pj, fun acc w0 H0 w H σ env S O Q st p =>
  he.sim w0 H0 w H σ env S O _ st ((PostX.bind p).imp fun d S1 w1 H1 st1 l1 p1 v r => by
    split at p1
    · rename_i y
      split at p1
      · rename_i z
        exact ⟨y, rep_str r, szB_le z, hr.sim (acc ++ y) w0 H0 w1 H1 σ env S1 O Q st1 p1⟩
      · exact False.elim p1
    · exact False.elim p1)⟩
theorem s_fs {v1 v2 : Expr} {rest : List Expr} {ts : List TE} {ms : List ME} (h : SJs X Y W (v1 :: v2 :: rest) ts ms) : SE X Y W (.JoinedStr (v1 :: v2 :: rest) pos) (fun σ H Q => tJs ts Str.empty σ H fun out H1 => Q (.str out) H1) (eFs ms Str.empty) := ⟨pe_joined h.pj, fun w0 H0 w H σ env S O Q st p =>
  h.sim Str.empty w0 H0 w H σ env S O _ st (p.imp fun d S1 w1 H1 st1 l1 p1 x ex => by
    subst ex
    exact p1 _ rep_str')⟩
variable {k n : Nat} {fa C : Addr} {fd : FuncData} {ps : List Str} {mfn : MFn}
variable {ta : TE} {ma : ME}
end
end Mm
namespace Mm
open PySem PySem.Spec PyProof.Rows L2
def pick {α : Type} (pi : List Nat) (l : List α) : List α := pi.filterMap fun i => l[i]?
def pickB (pi : List Nat) (n : Nat) : Bool := pi.length == n && pi.all fun i => decide (i < n)
theorem pick_len {α : Type} {l : List α} : ∀ {pi : List Nat}, (∀ i ∈ pi, i < l.length) → (pick pi l).length = pi.length
  | [], _ => rfl
  | i :: pi, h => by
    have e : l[i]? = some (l[i]'(h i List.mem_cons_self)) := List.getElem?_eq_getElem _
    unfold pick
    rw [List.filterMap_cons, e]
    exact congrArg (· + 1) (pick_len fun j hj => h j (List.mem_cons_of_mem _ hj))
theorem RepL.pick {g : Gam} {w : Wd} {ds : List D} {vs : List V} (r : RepL g w ds vs) : ∀ {pi : List Nat}, (∀ i ∈ pi, i < ds.length) → RepL g w (pick pi ds) (pick pi vs)
  | [], _ => RepL.nil_
  | i :: pi, h => by
    have e : ds[i]? = some (ds[i]'(h i List.mem_cons_self)) := List.getElem?_eq_getElem _
    obtain ⟨v, e2, rv⟩ := r.at_ e
    have ih := r.pick fun j hj => h j (List.mem_cons_of_mem _ hj)
    unfold Mm.pick
    rw [List.filterMap_cons, List.filterMap_cons, e, e2]
    exact RepL.cons_ rv ih
theorem vals_pick {vs : List V} {us : List Value} (r : Vals vs us) : ∀ {pi : List Nat}, Vals (pick pi vs) (pick pi us)
  | [] => .nil
  | i :: pi => by
    have ih := vals_pick r (pi := pi)
    unfold Mm.pick
    rw [List.filterMap_cons, List.filterMap_cons]
    cases e : vs[i]? with
    | none =>
      have e2 : us[i]? = none := by
        rw [List.getElem?_eq_none_iff] at e ⊢
        rw [← r.length]
        exact e
      rw [e2]
      exact ih
    | some v =>
      obtain ⟨u, e2, ru⟩ := r.get e
      rw [e2]
      exact .cons ru ih
theorem kbnP {K : PySem.W.Frag} {x qual : Str} {params : Arguments} {body : List Stmt} {scope : Scope} {kws : List (Str × V)} {f : Addr} {fd : FuncData} {ps : List Str} (F : FunD K x qual params body scope [] kws f fd) (n : Nat) (ks : List Str) (pi : List Nat)
    (h : ∀ (kV doc pm : Value) (an : Option Addr) (cdv ct : Value) (us ws : List Value), us.length = n → ws.length = ks.length → bindArgs (PySem.W.fnOf x qual params body scope .none kV doc pm an cdv ct) ⟨us, ks.zip ws⟩ = pure (ps.zip (us ++ pick pi ws))) : KBn K fd ps n ks (fun us ws => us ++ pick pi ws) (fun vs zs => vs ++ pick pi zs) := by
  obtain ⟨oc, od, dV, kV, doc, pm, an, cdv, ct, osl, rfl, lk, hcd, hD, hK⟩ := F.ex
  rcases hD with ⟨_, rfl⟩ | ⟨e, _⟩
  · refine ⟨fun s us ws X l1 l2 => ?_, fun {vs us zs ws} r1 r2 => ?_⟩
    · exact BindsTo.of_looks fun M => PySem.W.Looks.of_pure (h kV doc pm an cdv ct us ws l1 l2)
    · exact r1.append (vals_pick r2)
  · exact absurd rfl e
def aPick (pi : List Nat) (mk : MA) : MA := fun env S => (mk env S).bind fun ds S1 => .ok (pick pi ds) S1
end Mm
namespace Mm
open PySem L2
@[simp] theorem eFmt_eq (m : ME) (env : Envr) (S : Sto) : eFmt m env S = (m env S).bind fun d S1 => match d with
  | .str y => if szB y.length then .ok (.str y) S1 else .stuck
  | .int i => if decide (i.natAbs.log2 < 1920) then .ok (.str (toString i)) S1 else .stuck
  | _ => .stuck := rfl
@[simp] theorem eFs_nil (acc : Str) (env : Envr) (S : Sto) : eFs [] acc env S = .ok (.str acc) S := rfl
@[simp] theorem eFs_cons (m : ME) (ms : List ME) (acc : Str) (env : Envr) (S : Sto) : eFs (m :: ms) acc env S = (m env S).bind fun d S1 => match d with
  | .str y => if szB (acc ++ y).length then eFs ms (acc ++ y) env S1 else .stuck
  | _ => .stuck := rfl
@[simp] theorem aPick_eq (pi : List Nat) (mk : MA) (env : Envr) (S : Sto) : aPick pi mk env S = (mk env S).bind fun ds S1 => .ok (pick pi ds) S1 := rfl
@[simp] theorem pickNil {α : Type} (l : List α) : pick [] l = [] := rfl
@[simp] theorem pickCons {α : Type} (i : Nat) (pi : List Nat) (l : List α) : pick (i :: pi) l = (match l[i]? with
  | some a => a :: pick pi l
  | none => pick pi l) := by
  unfold pick
  rw [List.filterMap_cons]
  cases l[i]? <;> rfl
end Mm
namespace Mm
open PySem L2
def lcR2 (g : MG) (tt : MT) (mi1 : MI) (g1 : MG) (tt1 : MT) (te : ME) (vs1 : List Nat) (env : Envr) : List D → Sto → R (List D)
  | [], S => .ok [] S
  | d :: ds, S => match g d env with
    | none => .stuck
    | some e1 => match tt e1 S with
      | .ok true S1 => (match mi1 e1 S1 with
        | .ok ds1 S2 => (lcR g1 tt1 te (wipeE e1 vs1) ds1 S2).bind fun ys S3 => (lcR2 g tt mi1 g1 tt1 te vs1 env ds S3).bind fun zs S4 => .ok (ys ++ zs) S4
        | _ => .stuck)
      | .ok false S1 => lcR2 g tt mi1 g1 tt1 te vs1 env ds S1
      | _ => .stuck
def fLc2 (mi : MI) (g : MG) (tt : MT) (mi1 : MI) (g1 : MG) (tt1 : MT) (te : ME) (vs vs1 : List Nat) : MF := fun env S => (mi env S).bind fun ds S1 => (lcR2 g tt mi1 g1 tt1 te vs1 (wipeE env vs) ds S1).bind fin
theorem R.bind_assoc {α β γ : Type} (r : R α) (f : α → Sto → R β) (h : β → Sto → R γ) : (r.bind f).bind h = r.bind fun a s => (f a s).bind h := by cases r <;> rfl
theorem lcR2_noexc {g : MG} {tt : MT} {mi1 : MI} {g1 : MG} {tt1 : MT} {te : ME} {vs1 : List Nat} {env : Envr} : ∀ (ds : List D) (S : Sto) (c : Str) (p : Option D) (s : Sto), lcR2 g tt mi1 g1 tt1 te vs1 env ds S ≠ .exc c p s
  | [], S, c, p, s, h => by
    unfold lcR2 at h
    cases h
  | d :: ds, S, c, p, s, h => by
    unfold lcR2 at h
    split at h
    · cases h
    · split at h
      · split at h
        · rename_i ds1 S2 _
          cases q : lcR g1 tt1 te (wipeE _ vs1) ds1 S2 with
          | stuck => rw [q] at h; cases h
          | exc _ _ _ => exact lcR_noexc _ _ _ _ _ q
          | ok ys s3 =>
            rw [q] at h
            have h : (lcR2 g tt mi1 g1 tt1 te vs1 env ds s3).bind (fun zs S4 => R.ok (ys ++ zs) S4) = .exc c p s := h
            cases q2 : lcR2 g tt mi1 g1 tt1 te vs1 env ds s3 with
            | stuck => rw [q2] at h; cases h
            | exc _ _ _ => exact lcR2_noexc ds s3 _ _ _ q2
            | ok zs s4 => rw [q2] at h; cases h
        · cases h
      · exact lcR2_noexc ds _ c p s h
      · cases h
theorem StR.carry {g : Gam} {wa wb w' : Wd} {Ha Hb H' : Hp} {σ : L2.St} {env : Envr} {S S' : Sto} {O : List (Option Addr)} (st : StR g wa Ha wb Hb σ env S O) (no : ∀ (i : Nat) (c : Cell), env[i]? ≠ some (.o c)) (l : wb.le w') (k : Ok g w' H' S') : StR g w' H' w' H' σ env S' (List.replicate σ.length none) := by
  refine ⟨k, .refl _ _, st.l1, by simp, fun i s x o e1 e2 e3 => ?_, fun i j p e1 e2 => ?_, fun i p e => ?_⟩
  · have hi : i < σ.length := (List.getElem?_eq_some_iff.mp e2).1
    have eo : o = none := by
      rw [List.getElem?_replicate, if_pos hi] at e3
      exact (Option.some.inj e3).symm
    subst eo
    cases s with
    | no => exact rfl
    | v d =>
      have hO : i < O.length := by rw [st.l2]; exact hi
      obtain ⟨_, v, q2, q3⟩ := st.sl i (.v d) x O[i] e1 e2 (List.getElem?_eq_getElem hO)
      exact ⟨rfl, v, q2, q3.mono l⟩
    | o c => exact absurd e1 (no i c)
  · rw [List.getElem?_replicate] at e1
    split at e1 <;> cases e1
  · rw [List.getElem?_replicate] at e
    split at e <;> cases e
theorem wipeE_no {env : Envr} {vs : List Nat} (i : Nat) (c : Cell) : (wipeE env vs)[i]? ≠ some (.o c) := fun h => by
  rcases wipeE_get env vs i _ h with z | ⟨d, z, _⟩ <;> cases z
section
variable {g : Gam} {W : WX} {wi wi1 : TI} {mi mi1 : MI} {tg tg1 : TG} {mg mg1 : MG} {tt tt1 : TT} {mt mt1 : MT} {te : TE} {me : ME} {is is1 vs vs1 : List Nat}
theorem sim_lc2 (hi : SimI g W wi mi) (hg : SimG g is tg mg) (hv : ∀ i ∈ is, i ∈ vs) (ht : SimT g W0 tt mt) (hi1 : SimI g W0 wi1 mi1) (hg1 : SimG g is1 tg1 mg1) (hv1 : ∀ i ∈ is1, i ∈ vs1) (ht1 : SimT g W0 tt1 mt1) (he : SimE g W0 te me) : SimF g W (tLc2 wi tg tt wi1 tg1 tt1 te vs vs1) (fLc2 mi mg mt mi1 mg1 mt1 me vs vs1) := fun w0 H0 w H σ env S O Q st p => by
  refine hi w0 H0 w H σ env S O _ st ((PostX.bind p).imp fun ds S1 w1 H1 st1 l1 p1 J hJ D hD => ?_)
  obtain ⟨o1, o2, o3, o4⟩ := st1.out hD
  refine ⟨fun i m H => m + i = ds.length ∧ ∃ w' S' acc accV, Frame w1 H1 w' H ∧ Ok g w' H S' ∧ H D = some (.lst accV) ∧ w'.G D = none ∧ D ∉ w'.rho ∧ RepL g w' acc accV ∧
    PostX g W w0 H0 w' σ env O ((lcR2 mg mt mi1 mg1 mt1 me vs1 (wipeE env vs) (ds.drop i) S').bind fun ys S3 => fin (acc ++ ys) S3) (fun c _ w' H' => ∀ p, OwnAt g w' H0 H' O c p → Q (.ref p) H'), ?_, ?_⟩
  · obtain ⟨k2, f2⟩ := ok_lay (o := .lst []) st1.ok hD nt_lst
    exact ⟨ds.length, by omega, w1, S1, [], [], f2, k2, upd_same, o2, o3, RepL.nil_, p1⟩
  · rintro i k H2 ⟨hk, w2, S2, acc, accV, f2, k2, e2, g2, r2, ra, p2⟩
    obtain ⟨hgo, hstop⟩ := hJ w2 H2 f2.le k2.ex
    have st2 : StR g w0 H0 w2 H2 σ env S2 O := st1.after f2 k2
    have stb : StR g w2 H2 w2 H2 (wipe σ vs) (wipeE env vs) S2 (List.replicate σ.length none) := st2.hide vs
    by_cases hlt : i < ds.length
    · have ed : ds.drop i = ds[i] :: ds.drop (i + 1) := List.drop_eq_getElem_cons hlt
      obtain ⟨go, yld⟩ := hgo i ds[i] (List.getElem?_eq_getElem hlt)
      refine .inr ⟨go, fun H => ∃ w' S' acc accV, Frame w1 H1 w' H ∧ Ok g w' H S' ∧ H D = some (.lst accV) ∧ w'.G D = none ∧ D ∉ w'.rho ∧ RepL g w' acc accV ∧
        PostX g W w0 H0 w' σ env O ((lcR2 mg mt mi1 mg1 mt1 me vs1 (wipeE env vs) (ds.drop (i + 1)) S').bind fun ys S3 => fin (acc ++ ys) S3) (fun c _ w' H' => ∀ p, OwnAt g w' H0 H' O c p → Q (.ref p) H'), fun H' h' => ⟨k - 1, by omega, by omega, h'⟩, fun x H' hy => ?_⟩
      obtain ⟨w3, gr, rx⟩ := yld x H' hy
      have st3 := stb.grow gr
      rw [ed] at p2
      unfold lcR2 at p2
      cases z : mg ds[i] (wipeE env vs) with
      | none => rw [z] at p2; exact False.elim p2
      | some e1 =>
        simp only [z] at p2
        refine hg w2 H2 w3 H' _ _ S2 _ ds[i] x _ e1 st3 rx z fun σ4 O4 st4 sl4 => ⟨?_, ?_⟩
        · rw [wipe_slots sl4 hv, wipe_wipe]
        · refine ht w2 H2 w3 H' σ4 e1 S2 O4 _ st4 ?_
          cases y : mt e1 S2 with
          | stuck => simp only [y] at p2; exact p2
          | exc c q s => simp only [y] at p2; exact False.elim p2
          | ok bb S5 =>
            intro w5 H5 st5 l5
            have keepD : ∀ {w6 : Wd} {H6 : Hp}, Frame w2 H2 w6 H6 → H6 D = some (.lst accV) ∧ w6.G D = none ∧ D ∉ w6.rho := fun {w6 H6} f6 =>
              ⟨f6.keep D _ e2 r2 nt_lst, (f6.newG D (by rw [e2]; exact fun z => nomatch z)).trans g2, fun q => by
                rcases f6.rho D q with z | z
                · exact r2 z
                · rw [e2] at z; cases z⟩
            cases bb with
            | false =>
              simp only [y] at p2
              simp only [Bool.false_eq_true, if_false]
              obtain ⟨q1, q2, q3⟩ := keepD st5.fr
              exact ⟨w5, S5, acc, accV, f2.trans st5.fr, st5.ok, q1, q2, q3, ra.mono st5.fr.le, PostX.mono p2 st5.fr.le⟩
            | true =>
              simp only [y] at p2
              simp only [if_true]
              refine hi1 w2 H2 w5 H5 σ4 e1 S5 O4 _ st5 ?_
              cases zz : mi1 e1 S5 with
              | stuck => simp only [zz] at p2; exact p2
              | exc c q s => simp only [zz] at p2; exact False.elim p2
              | ok ds1 S6 =>
                simp only [zz] at p2
                intro w6 H6 st6 l6 J1 hJ1
                obtain ⟨q1, q2, q3⟩ := keepD st6.fr
                have stI : StR g w6 H6 w6 H6 (wipe σ4 vs1) (wipeE e1 vs1) S6 (List.replicate σ4.length none) := st6.hide vs1
                rw [R.bind_assoc] at p2
                simp only [R.bind_assoc] at p2
                refine ⟨fun j m H => m + j = ds1.length ∧ ∃ w' S' acc accV, Frame w1 H1 w' H ∧ Ok g w' H S' ∧ H D = some (.lst accV) ∧ w'.G D = none ∧ D ∉ w'.rho ∧ RepL g w' acc accV ∧ w6.le w' ∧
                  PostX g W w0 H0 w' σ env O ((lcR mg1 mt1 me (wipeE e1 vs1) (ds1.drop j) S').bind fun ys S3 => (lcR2 mg mt mi1 mg1 mt1 me vs1 (wipeE env vs) (ds.drop (i + 1)) S3).bind fun zs S4 => fin (acc ++ (ys ++ zs)) S4) (fun c _ w' H' => ∀ p, OwnAt g w' H0 H' O c p → Q (.ref p) H'), ?_, ?_⟩
                · exact ⟨ds1.length, by omega, w6, S6, acc, accV, f2.trans st6.fr, st6.ok, q1, q2, q3, ra.mono st6.fr.le, .refl w6, PostX.mono p2 st6.fr.le⟩
                · rintro j m H7 ⟨hm, w7, S7, ac7, aV7, f7, k7, e7, g7, r7, ra7, l7, p7⟩
                  obtain ⟨hgo1, hstop1⟩ := hJ1 w7 H7 l7 k7.ex
                  have stj : StR g w7 H7 w7 H7 (wipe σ4 vs1) (wipeE e1 vs1) S7 (List.replicate (wipe σ4 vs1).length none) := stI.carry (fun i c => wipeE_no i c) l7 k7
                  by_cases hl1 : j < ds1.length
                  · have ed1 : ds1.drop j = ds1[j] :: ds1.drop (j + 1) := List.drop_eq_getElem_cons hl1
                    obtain ⟨go1, yld1⟩ := hgo1 j ds1[j] (List.getElem?_eq_getElem hl1)
                    refine .inr ⟨go1, fun H => ∃ w' S' acc accV, Frame w1 H1 w' H ∧ Ok g w' H S' ∧ H D = some (.lst accV) ∧ w'.G D = none ∧ D ∉ w'.rho ∧ RepL g w' acc accV ∧ w6.le w' ∧
                      PostX g W w0 H0 w' σ env O ((lcR mg1 mt1 me (wipeE e1 vs1) (ds1.drop (j + 1)) S').bind fun ys S3 => (lcR2 mg mt mi1 mg1 mt1 me vs1 (wipeE env vs) (ds.drop (i + 1)) S3).bind fun zs S4 => fin (acc ++ (ys ++ zs)) S4) (fun c _ w' H' => ∀ p, OwnAt g w' H0 H' O c p → Q (.ref p) H'), fun H' h' => ⟨m - 1, by omega, by omega, h'⟩, fun x1 H8 hy1 => ?_⟩
                    obtain ⟨w8, gr8, rx8⟩ := yld1 x1 H8 hy1
                    have st8 := stj.grow gr8
                    rw [ed1] at p7
                    unfold lcR at p7
                    have keep7 : ∀ {w9 : Wd} {H9 : Hp}, Frame w7 H7 w9 H9 → H9 D = some (.lst aV7) ∧ w9.G D = none ∧ D ∉ w9.rho := fun {w9 H9} f9 =>
                      ⟨f9.keep D _ e7 r7 nt_lst, (f9.newG D (by rw [e7]; exact fun z => nomatch z)).trans g7, fun q => by
                        rcases f9.rho D q with z | z
                        · exact r7 z
                        · rw [e7] at z; cases z⟩
                    cases z1 : mg1 ds1[j] (wipeE e1 vs1) with
                    | none => rw [z1] at p7; exact False.elim p7
                    | some e9 =>
                      simp only [z1] at p7
                      refine hg1 w7 H7 w8 H8 _ _ S7 _ ds1[j] x1 _ e9 st8 rx8 z1 fun σ9 O9 st9 sl9 => ⟨?_, ?_⟩
                      · rw [wipe_slots sl9 hv1, wipe_wipe]
                      · refine ht1 w7 H7 w8 H8 σ9 e9 S7 O9 _ st9 ?_
                        cases y1 : mt1 e9 S7 with
                        | stuck => simp only [y1] at p7; exact p7
                        | exc c q s => simp only [y1] at p7; exact False.elim p7
                        | ok b1 S10 =>
                          intro w10 H10 st10 l10
                          cases b1 with
                          | false =>
                            simp only [y1] at p7
                            simp only [Bool.false_eq_true, if_false]
                            obtain ⟨t1, t2, t3⟩ := keep7 st10.fr
                            exact ⟨w10, S10, ac7, aV7, f7.trans st10.fr, st10.ok, t1, t2, t3, ra7.mono st10.fr.le, l7.trans st10.fr.le, PostX.mono p7 st10.fr.le⟩
                          | true =>
                            simp only [y1] at p7
                            simp only [if_true]
                            refine he w7 H7 w10 H10 σ9 e9 S10 O9 _ st10 ?_
                            cases u : me e9 S10 with
                            | stuck => simp only [u] at p7; exact p7
                            | exc c q s => simp only [u] at p7; exact False.elim p7
                            | ok yv S11 =>
                              simp only [u] at p7
                              rw [R.bind_assoc] at p7
                              intro w11 H11 st11 l11 v11 r11
                              obtain ⟨t1, t2, t3⟩ := keep7 st11.fr
                              have p8 : PostX g W w0 H0 w7 σ env O ((lcR mg1 mt1 me (wipeE e1 vs1) (ds1.drop (j + 1)) S11).bind fun ys S3 => (lcR2 mg mt mi1 mg1 mt1 me vs1 (wipeE env vs) (ds.drop (i + 1)) S3).bind fun zs S4 => fin ((ac7 ++ [yv]) ++ (ys ++ zs)) S4) (fun c _ w' H' => ∀ p, OwnAt g w' H0 H' O c p → Q (.ref p) H') := by
                                cases q : lcR mg1 mt1 me (wipeE e1 vs1) (ds1.drop (j + 1)) S11 with
                                | stuck => rw [q] at p7; exact p7
                                | exc c a s => exact absurd q (lcR_noexc _ _ _ _ _)
                                | ok ys s =>
                                  rw [q] at p7
                                  have p7 : PostX g W w0 H0 w7 σ env O ((lcR2 mg mt mi1 mg1 mt1 me vs1 (wipeE env vs) (ds.drop (i + 1)) s).bind fun zs S4 => fin (ac7 ++ ((yv :: ys) ++ zs)) S4) _ := p7
                                  show PostX g W w0 H0 w7 σ env O ((lcR2 mg mt mi1 mg1 mt1 me vs1 (wipeE env vs) (ds.drop (i + 1)) s).bind fun zs S4 => fin ((ac7 ++ [yv]) ++ (ys ++ zs)) S4) _
                                  have e : (fun (zs : List Mm.D) (S4 : Sto) => fin ((ac7 ++ [yv]) ++ (ys ++ zs)) S4) = fun zs S4 => fin (ac7 ++ ((yv :: ys) ++ zs)) S4 := by
                                    funext zs S4
                                    rw [List.append_assoc]
                                    rfl
                                  rw [e]
                                  exact p7
                              have hsz : ac7.length + 1 ≤ 100000 := by
                                cases q : lcR mg1 mt1 me (wipeE e1 vs1) (ds1.drop (j + 1)) S11 with
                                | stuck => rw [q] at p8; exact False.elim p8
                                | exc c a s => exact absurd q (lcR_noexc _ _ _ _ _)
                                | ok ys s =>
                                  rw [q] at p8
                                  have p8 : PostX g W w0 H0 w7 σ env O ((lcR2 mg mt mi1 mg1 mt1 me vs1 (wipeE env vs) (ds.drop (i + 1)) s).bind fun zs S4 => fin ((ac7 ++ [yv]) ++ (ys ++ zs)) S4) _ := p8
                                  cases q2 : lcR2 mg mt mi1 mg1 mt1 me vs1 (wipeE env vs) (ds.drop (i + 1)) s with
                                  | stuck => rw [q2] at p8; exact False.elim p8
                                  | exc c a s => exact absurd q2 (lcR2_noexc _ _ _ _ _)
                                  | ok zs s4 =>
                                    rw [q2] at p8
                                    have p8 : PostX g W w0 H0 w7 σ env O (fin ((ac7 ++ [yv]) ++ (ys ++ zs)) s4) _ := p8
                                    unfold fin at p8
                                    split at p8
                                    · rename_i hz
                                      have hz2 : ((ac7 ++ [yv]) ++ (ys ++ zs)).length ≤ 100000 := of_decide_eq_true hz
                                      simp only [List.length_append, List.length_cons, List.length_nil] at hz2
                                      omega
                                    · exact False.elim p8
                              refine ⟨aV7, t1, Nat.lt_of_lt_of_le (by rw [← ra7.len]; omega) (by decide : 100000 ≤ sizeLine), ?_⟩
                              have f11 := (f7.trans st11.fr).upd_new (o := .lst (aV7 ++ [v11])) hD
                              have k11 := ok_upd (o := .lst (aV7 ++ [v11])) st11.ok t1 t2 t3
                              exact ⟨w11, S11, ac7 ++ [yv], aV7 ++ [v11], f11, k11, upd_same, t2, t3, (ra7.mono st11.fr.le).append_ (RepL.cons_ r11 RepL.nil_), l7.trans st11.fr.le, PostX.mono p8 st11.fr.le⟩
                  · have ej : j = ds1.length := by omega
                    refine .inl ⟨by rw [ej]; exact hstop1, ?_⟩
                    have ed1 : ds1.drop j = [] := by rw [ej]; exact List.drop_length
                    rw [ed1] at p7
                    exact ⟨w7, S7, ac7, aV7, f7, k7, e7, g7, r7, ra7, p7⟩
    · have ei : i = ds.length := by omega
      refine .inl ⟨by rw [ei]; exact hstop, ?_⟩
      have ed : ds.drop i = [] := by rw [ei]; exact List.drop_length
      rw [ed] at p2
      have p2 : PostX g W w0 H0 w2 σ env O (fin (acc ++ []) S2) _ := p2
      rw [List.append_nil] at p2
      unfold fin at p2
      split at p2
      · exact p2 w2 H2 st2 (.refl w2) D ⟨o1, g2, r2, o4, ⟨accV, e2, ra⟩⟩
      · exact False.elim p2
end
section
variable {X : Cx} {Y : Gam} {W : WX} {tg iter tg1 iter1 elt : Expr} {ifs ifs1 : List Expr} {te : TE} {me : ME} {tt tt1 : TT} {mt mt1 : MT} {wi wi1 : TI} {mi mi1 : MI} {scope : Scope} {own : List (Str × Nat)} {is is1 vs1 : List Nat} {g g1 : TG} {mg mg1 : MG} {pos : Pos}
theorem f_lc2 (vs1 : List Nat) (hN : X.N.Nodup) (hi : SI X Y W tg iter wi mi) (ok : BlkOk X.N X.env.scope scope own) (hg : ∀ (s : Shared) (H : Hp) (C : Addr) (cl : List (Str × Addr)) (fp : List Addr), SG (X.blk s H scope (compEnvC scope cl C X.env) fp) Y is tg g mg)
    (ht : ∀ (s : Shared) (H : Hp) (C : Addr) (cl : List (Str × Addr)) (fp : List Addr), ST (X.blk s H scope (compEnvC scope cl C X.env) fp) Y W0 ifs tt mt)
    (hi1 : ∀ (s : Shared) (H : Hp) (C : Addr) (cl : List (Str × Addr)) (fp : List Addr), SI (X.blk s H scope (compEnvC scope cl C X.env) fp) Y W0 tg1 iter1 wi1 mi1)
    (hg1 : ∀ (s : Shared) (H : Hp) (C : Addr) (cl : List (Str × Addr)) (fp : List Addr), SG (X.blk s H scope (compEnvC scope cl C X.env) fp) Y is1 tg1 g1 mg1)
    (ht1 : ∀ (s : Shared) (H : Hp) (C : Addr) (cl : List (Str × Addr)) (fp : List Addr), ST (X.blk s H scope (compEnvC scope cl C X.env) fp) Y W0 ifs1 tt1 mt1)
    (he : ∀ (s : Shared) (H : Hp) (C : Addr) (cl : List (Str × Addr)) (fp : List Addr), SE (X.blk s H scope (compEnvC scope cl C X.env) fp) Y W0 elt te me) (hv : ∀ i ∈ is, i ∈ own.map (·.2) := by decide) (hv1 : ∀ i ∈ is1, i ∈ vs1 := by decide) (hvo : ∀ i ∈ vs1, i ∈ own.map (·.2) := by decide) (hc : X.calm = true := by rfl) (hs : ∀ x, foldedSetIterable iter X.env x = pure x := by intro _; rfl) (hs1 : ∀ env x, foldedSetIterable iter1 env x = pure x := by intro _ _; rfl) :
    SF X Y W (.ListComp elt [⟨tg, iter, ifs, 0⟩, ⟨tg1, iter1, ifs1, 0⟩] scope pos) (tLc2 wi g tt wi1 g1 tt1 te (own.map (·.2)) vs1) (fLc2 mi mg mt mi1 mg1 mt1 me (own.map (·.2)) vs1) :=
  ⟨pe_lc2 hc hN hi.pi ok hvo (fun s H C cl fp => (hg s H C cl fp).pg) (fun s H C cl fp => (ht s H C cl fp).pts) (fun s H C cl fp => (hi1 s H C cl fp).pi) (fun s H C cl fp => (hg1 s H C cl fp).pg) (fun s H C cl fp => (ht1 s H C cl fp).pts) (fun s H C cl fp => (he s H C cl fp).pe) hs hs1,
    sim_lc2 hi.sim (hg X.s_0 X.H_0 0 [] []).sim hv (ht X.s_0 X.H_0 0 [] []).sim (hi1 X.s_0 X.H_0 0 [] []).sim (hg1 X.s_0 X.H_0 0 [] []).sim hv1 (ht1 X.s_0 X.H_0 0 [] []).sim (he X.s_0 X.H_0 0 [] []).sim⟩
end
end Mm
namespace Mm
open PySem L2
section
variable {X : Cx} {Y : Gam} {W : WX} {o e : Expr} {to te : TE} {mo me : ME} {apos pos : Pos}
def joinB (a : Str) (ys : List Str) : Bool := Nat.ble ((ys.map (·.length)).sum + ys.length * a.length) 16777216
def eJoin (mo me : ME) : ME := fun env S => (mo env S).bind fun a S1 => match a with
  | .str x => (me env S1).bind fun b S2 => (match b with
    | .lst ds => (match strsOf ds with
      | some ys => if joinB x ys then .ok (.str (Txt.join x ys)) S2 else .stuck
      | none => .stuck)
    | .tup ds => (match strsOf ds with
      | some ys => if joinB x ys then .ok (.str (Txt.join x ys)) S2 else .stuck
      | none => .stuck)
    | _ => .stuck)
  | _ => .stuck
theorem s_join (ho : SE X Y W o to mo) (he : SE X Y W e te me) (hK : X.K = Y.K := by rfl) (hs : starEach [e] X.env = [(false, eval e X.env)] := by rfl) (hbase : attributeBase o "join" X.env (eval o X.env) = eval o X.env := by rfl) (hline : (apos.endLine == pos.line) = true := by rfl) :
    SE X Y W (.Call (.Attribute o "join" apos) [e] [] pos) (tM1 (fun x xs H Q => ∃ a p, ∃ ys : List Str, x = .str a ∧ xs = [.ref p] ∧ (SqL X.K H p (ys.map V.str) ∨ SqT X.K H p (ys.map V.str)) ∧
      (ys.map (·.length)).sum + ys.length * a.length ≤ 16777216 ∧ Q (.str (Txt.join a ys)) H) to te) (eJoin mo me) := ⟨pe_join ho.pe he.pe hs hbase hline, fun w0 H0 w H σ env S O Q st p =>
  ho.sim w0 H0 w H σ env S O _ st ((PostX.bind p).imp fun a S1 w1 H1 st1 l1 p1 va ra => by
    cases a with
    | str x =>
      refine ⟨⟨x, rep_str ra⟩, he.sim w0 H0 w1 H1 σ env S1 O _ st1 ((PostX.bind p1).imp fun b S2 w2 H2 st2 l2 p2 vb rb => ?_)⟩
      cases b with
      | lst ds =>
        simp only at p2
        cases z : strsOf ds with
        | none => rw [z] at p2; exact False.elim p2
        | some ys =>
          rw [z] at p2
          simp only at p2
          split at p2
          · rename_i hz
            obtain ⟨q, vs, e1, e2, e3⟩ := rep_lst rb
            rw [strsOf_rep z e3] at e2
            exact ⟨x, q, ys, rep_str ra, by rw [e1], .inl (.inl (.inl (st2.ok.ex _ _ e2))), Nat.ble_eq.mp hz, p2 w2 H2 st2 (.refl w2) _ (by unfold Rep; rfl)⟩
          · exact False.elim p2
      | tup ds =>
        simp only at p2
        cases z : strsOf ds with
        | none => rw [z] at p2; exact False.elim p2
        | some ys =>
          rw [z] at p2
          simp only at p2
          split at p2
          · rename_i hz
            obtain ⟨q, vs, e1, e2, e3⟩ := rep_tup rb
            rw [strsOf_rep z e3] at e2
            exact ⟨x, q, ys, rep_str ra, by rw [e1], .inr (by rw [hK]; exact same_sqT st2.ok.ex e2), Nat.ble_eq.mp hz, p2 w2 H2 st2 (.refl w2) _ (by unfold Rep; rfl)⟩
          · exact False.elim p2
      | _ => exact False.elim p2
    | _ => exact False.elim p1)⟩
@[simp] theorem eJoin_eq (mo me : ME) (env : Envr) (S : Sto) : eJoin mo me env S = (mo env S).bind fun a S1 => match a with
  | .str x => (me env S1).bind fun b S2 => (match b with
    | .lst ds => (match strsOf ds with
      | some ys => if joinB x ys then .ok (.str (Txt.join x ys)) S2 else .stuck
      | none => .stuck)
    | .tup ds => (match strsOf ds with
      | some ys => if joinB x ys then .ok (.str (Txt.join x ys)) S2 else .stuck
      | none => .stuck)
    | _ => .stuck)
  | _ => .stuck := rfl
end
end Mm
namespace Mm
open PySem PySem.Spec PyProof.Rows
def addT (l : List Str) (x : Str) : List Str := if l.any (· == x) then l else l ++ [x]
def dT (xs : List Str) : List Str := xs.foldl addT []
theorem dT_snoc (xs : List Str) (x : Str) : dT (xs ++ [x]) = addT (dT xs) x := by simp [dT, List.foldl_append]
theorem addT_len (l : List Str) (x : Str) : (addT l x).length = if l.any (· == x) then l.length else l.length + 1 := by
  unfold addT
  split <;> simp
theorem dT_go_len : ∀ (xs l : List Str), (xs.foldl addT l).length ≤ l.length + xs.length
  | [], l => by simp
  | x :: xs, l => by
    have := dT_go_len xs (addT l x)
    have e := addT_len l x
    rw [List.foldl_cons, List.length_cons]
    split at e <;> omega
theorem dT_len (xs : List Str) : (dT xs).length ≤ xs.length := by
  have := dT_go_len xs []
  simpa [dT] using this
theorem addT_any (l : List Str) (x y : Str) : (l.any (· == y) || decide (y = x)) = (addT l x).any (· == y) := by
  unfold addT
  by_cases h : l.any (· == x) = true
  · rw [if_pos h]
    by_cases e : y = x
    · subst e
      simp [h]
    · simp [e]
  · rw [if_neg h, List.any_append]
    by_cases e : y = x
    · subst e
      simp
    · have : (x == y) = false := by simpa using fun z : x = y => e z.symm
      simp [e, this]
theorem take_snoc (xs : List Str) {i : Nat} (h : i < xs.length) : xs.take (i + 1) = xs.take i ++ [xs.getD i Str.empty] := by
  rw [List.take_succ_eq_append_getElem h, List.getD_eq_getElem?_getD, List.getElem?_eq_getElem h]
  rfl
abbrev SetTx (P : Program) (w : World) (h : Heap) (a : Addr) (l : List Str) : Prop := h.SetOf (PySem.strKind P w) a (fun y => l.any (· == y)) l.length
theorem SetTx.at {P : Program} {w : World} {h h' : Heap} {a : Addr} {l : List Str} (x : SetTx P w h a l) (k : ∀ o, h.get? a = some o → h'.get? a = some o) : SetTx P w h' a l := by
  obtain ⟨o, es, ep, tb, ho, r⟩ := x
  exact ⟨o, es, ep, tb, k o ho, r⟩
section
variable {P : Program} {w : World} {A : Around} {R : Result → Shared → Prop} {I : Addr} {fp wr : List Addr} {G : Array GenState → Array GenState → Prop} {n : Nat} {Pv : Nat → Value → Prop} {St : Nat → Shared → Prop}
theorem txt_loop (W : WalksS P w A.in1 I fp wr G n Pv St) (a : Addr) (ha : a ∉ fp) (xs : List Str) (hn : xs.length = n) (hb : n + 1 < scanBound) (hv : ∀ i v, Pv i v → ∃ t, v = .str (xs.getD i Str.empty) t) :
    ∀ (k i : Nat) (s : Shared), n - i = k → i ≤ n → St i s → SetTx P w s.heap a (dT (xs.take i)) →
      (∀ s', Moved (a :: wr) G s s' → SetTx P w s'.heap a (dT xs) → R (.ok (.ret .none)) s') →
      codeAny (model P w) A (.builtin "set.update.loop" ⟨[.ref a, .ref I], []⟩) R s := by
  have hw : a ∉ wr := fun h => ha (W.sub _ h)
  have up : ∀ b ∈ wr, b ∈ a :: wr := fun b hb => List.mem_cons_of_mem _ hb
  intro k
  induction k with
  | zero =>
    intro i s hk hi st x fin
    have e : xs.take i = xs := List.take_of_length_le (by omega)
    rw [e] at x
    have ei : i = n := by omega
    subst ei
    refine codeAny_builtin PyProof.Rows.F.entry_set_update_loop ?_
    rw [Around.under_plainId PyProof.Rows.F.plain_set_update_loop _]
    show wpAny _ A.in1 (pyNext (.ref I) >>= _) _ _ s
    exact wpAny_bind (W.done s _ _ st fun s' m => wpAny_pure (fin s' (m.mono up) (x.at fun o ho => m.heap a _ hw ho)))
  | succ k ih =>
    intro i s hk hi st x fin
    have lt : i < n := by omega
    refine codeAny_builtin PyProof.Rows.F.entry_set_update_loop ?_
    rw [Around.under_plainId PyProof.Rows.F.plain_set_update_loop _]
    show wpAny _ A.in1 (pyNext (.ref I) >>= _) _ _ s
    refine wpAny_bind (W.item i s _ _ lt st fun v s1 pv st1 m => ?_)
    obtain ⟨t, rfl⟩ := hv i v pv
    have x1 := x.at (h' := s1.heap) fun o ho => m.heap a _ hw ho
    show wpAny _ A.in1 (holding [Value.str (xs.getD i Str.empty) t] (setAdd a (.str (xs.getD i Str.empty) t)) >>= _) _ _ s1
    refine wpAny_bind (wpAny_holding ?_)
    unfold setAdd
    refine wpAny_holding (wpAny_bind ((PySem.strKind P w).pyHash (k := xs.getD i Str.empty) (strKind_is _ _ _ _) ?_))
    have room : (dT (xs.take i)).length + 1 < scanBound := by
      have := dT_len (xs.take i)
      have : (xs.take i).length ≤ i := by
        rw [List.length_take]
        exact Nat.min_le_left _ _
      omega
    refine wpAny_setAddHashed_of (knd := PySem.strKind P w) (s := { s1 with toks := s1.toks + 1 }) (strKind_is _ _ _ _) rfl x1 room fun h' sb x2 => ?_
    have x3 : SetTx P w h' a (dT (xs.take (i + 1))) := by
      rw [take_snoc xs (by omega), dT_snoc]
      exact SetOf_congr x2 (fun y => addT_any _ _ y) (addT_len _ _).symm
    have st2 := W.frame (i + 1) s1 h' (s1.toks + 1) st1 (Nat.le_succ _) fun b hb o e => by
      rw [sb.2 b fun z => ha (z ▸ hb)]
      exact e
    refine wpAny_pure ⟨plainId_quiet PyProof.Rows.F.plain_set_update_loop _, ih (i + 1) _ (by omega) lt st2 x3 fun s2 m2 y => ?_⟩
    refine fin s2 (Moved.trans W.gtrans ((m.mono up).then_heap (Nat.le_succ _) fun b o hb e => ?_) m2) y
    rw [sb.2 b fun z => hb (z ▸ List.mem_cons_self)]
    exact e
end
section
variable {P : Program} {w : World} {A : Around} {E : Value → Shared → Prop} {s : Shared}
abbrev newSet (led : Bool) : Obj := { cls := .type "set", dict := none, data := .set #[] 0 (.fresh 0 0 led) }
abbrev SetMade (P : Program) (w : World) (s : Shared) (xs : List Str) (h' : Heap) : Prop := SetTx P w h' s.heap.objs.size (dT xs) ∧ ∀ b o, b < s.heap.objs.size → s.heap.get? b = some o → h'.get? b = some o
theorem init_fin {it : Obj} {led : Bool} {l : Addr} {items : Array Value} {xs : List Str} {St : Nat → Heap → Prop} {A' : Around} {fp : List Addr}
    (W : Walks P w A'.in1 (s.heap.push (newSet led)).objs.size fp [(s.heap.push (newSet led)).objs.size] items.size (fun i v => items[i]? = some v) St) (hf : fp = [(s.heap.push (newSet led)).objs.size, l]) (hl : l < s.heap.objs.size) (hi : StrsAre items.toList xs) (hb : xs.length + 1 < scanBound)
    (s0 : Shared) (es : s0 = { s with heap := (s.heap.push (newSet led)).push it }) (st : St 0 s0.heap) {Q : Result → Shared → Prop}
    (fin : ∀ h' tk, SetMade P w s xs h' → Q (.ok (.ret .none)) { s with heap := h', toks := tk }) :
    codeAny (model P w) A' (.builtin "set.update.loop" ⟨[.ref s.heap.objs.size, .ref (s.heap.push (newSet led)).objs.size], []⟩) Q s0 := by
  have len : xs.length = items.size := by rw [← StrsAre.len_eq hi, Array.length_toList]
  have nf : s.heap.objs.size ∉ fp := by
    rw [hf, Heap.size_push]
    simp only [List.mem_cons, List.mem_singleton, List.not_mem_nil, or_false, not_or]
    exact ⟨Nat.ne_of_lt (Nat.lt_succ_self _), Nat.ne_of_gt hl⟩
  have at0 : s0.heap.get? s.heap.objs.size = some (newSet led) := by
    rw [es]
    exact Heap.get?_push_of_some _ (Heap.get?_push_size _ rfl)
  refine txt_loop W.toS s.heap.objs.size nf xs len (by omega) (fun i v hv => SS.strs_at hi i v (by rw [Array.getElem?_toList]; exact hv)) (items.size - 0) 0 s0 (by omega) (Nat.zero_le _) st ?_ fun s' m x => ?_
  · exact SetOf_congr ((setObjOf_fresh (knd := PySem.strKind P w) led).setOf at0 (by unfold scanBound; omega)) (fun _ => rfl) rfl
  · obtain ⟨h', g', d', tk', os'⟩ := s'
    have eg : g' = s0.gens := m.gens
    have ed : d' = s0.drawn := m.drawn
    have eo : os' = s0.os := m.os
    subst es
    subst eg ed eo
    refine fin h' tk' ⟨x, fun b o hb e => m.heap b o ?_ (Heap.get?_push_of_some _ (Heap.get?_push_of_some _ e))⟩
    rw [Heap.size_push]
    simp only [List.mem_cons, List.mem_singleton, List.not_mem_nil, or_false, not_or]
    exact ⟨Nat.ne_of_lt hb, Nat.ne_of_lt (Nat.lt_succ_of_lt hb)⟩
theorem call_setT_list {l : Addr} {items : Array Value} {xs : List Str} {Q : Value → Shared → Prop} (hh : A.handled = none) (hl : s.heap.IsList l items) (hi : StrsAre items.toList xs) (hb : xs.length + 1 < scanBound)
    (fin : ∀ h' tk, SetMade P w s xs h' → Q (.ref s.heap.objs.size) { s with heap := h', toks := tk }) : wpAny (model P w) A (call (.type "set") [.ref l]) Q E s := by
  obtain ⟨c, tl, hmro⟩ := PySem.F.called_set.mro
  have f1 := PySem.F.called_set.made
  have f2 := PySem.F.called_set.sub
  have f3 := PySem.F.called_set.notType
  have f4 := PySem.F.called_set.canCreate
  have f5 := PySem.F.typeCall_set_1 (.ref l)
  refine wpAny_call (codeAny_of_tree ?_)
  show wpAny _ _ (callAny (.type "set") _) _ _ _
  refine wpAny_pure ⟨Code.quiet_builtin _ (by decide +kernel), codeAny_builtin PySem.F.entry_type_call ?_⟩
  rw [Around.under_plain (weight_type_call_type "set" [.ref l] []) rfl]
  repeat (any_goals (first | assumption | wp_step))
  refine codeAny_mono (code_set_new_1 (.ref l) (E := E) (Q₁ := fun obj s₁ => ∃ led : Bool, obj = .ref s.heap.objs.size ∧ s₁ = { s with heap := s.heap.push (newSet led) }) fun led => ⟨led, rfl, rfl⟩) fun r s₁ hr => ?_
  cases r with
  | error e => exact hr
  | ok fl =>
    cases fl with
    | ret obj =>
      obtain ⟨led, rfl, rfl⟩ := hr
      have at0 : (s.heap.push (newSet led)).get? s.heap.objs.size = some (newSet led) := Heap.get?_push_size _ rfl
      have ty : Shared.TypeIs { s with heap := s.heap.push (newSet led) } (.ref s.heap.objs.size) "set" := ⟨_, at0, rfl⟩
      have g1 := PySem.F.called_set.init.lookup
      have g2 := PySem.F.called_set.init.bind (.ref s.heap.objs.size)
      repeat (any_goals (first | assumption | wp_step))
      refine codeAny_mono (codeAny_call_builtin (R := wants (fun r s₂ => r = .none ∧ ∃ h' tk, s₂ = { s with heap := h', toks := tk } ∧ SetMade P w s xs h') E) PySem.F.called_set.init.plain PySem.F.entry_set_init (check_set_init_1 ty ?_)) fun r₂ s₂ hr₂ => ?_
      · have ll : l < s.heap.objs.size := by
          obtain ⟨o, ho, _⟩ := hl
          exact Heap.lt_size ho
        obtain ⟨ol, hol, hcl, nl, hdl⟩ := hl
        obtain ⟨ocls, odict, odata, oslots⟩ := ol
        simp only at hcl hdl
        subst hcl hdl
        have al : (s.heap.push (newSet led)).get? l = some { cls := .type "list", dict := odict, data := .seq items nl, slots := oslots } := Heap.get?_push_of_some _ hol
        have k1 := PySem.F.sub_list_set
        have k2 := PySem.F.sub_list_frozenset
        have k3 : (Value.type "list" == Value.type "dict") = false := by decide
        have il : (s.heap.push (newSet led)).IsList l items := ⟨_, al, rfl, nl, rfl⟩
        unfold Builtin.«set.__init__» noKeywords Builtin.Frozenset.updateFrom
        generalize hPI : pyIter = PI
        wp_walk
        subst hPI
        refine wpAny_pyIter_list il (wpAny_bind (wpAny_runValue ?_))
        have ne : l ≠ (s.heap.push (newSet led)).objs.size := by
          rw [Heap.size_push]
          exact Nat.ne_of_lt (Nat.lt_succ_of_lt ll)
        refine init_fin (l := l) (items := items) (xs := xs) (Walks.list (by simp [hh]) _ l ne items) rfl ll hi hb _ rfl ⟨⟨_, Heap.get?_push_size _ rfl, rfl, rfl⟩, il.push _⟩ fun h' tk m => ?_
        refine wpAny_pure ?_
        show wpAny _ _ (ret Value.none) _ _ _
        exact wpAny_pure ⟨rfl, h', tk, rfl, m⟩
      · cases r₂ with
        | error e => exact hr₂
        | ok fl₂ =>
          cases fl₂ with
          | ret r =>
            obtain ⟨rfl, h', tk, rfl, m⟩ := hr₂
            repeat (any_goals (first | assumption | wp_step))
            exact fin _ _ m
          | _ => exact hr₂.elim
    | _ => exact hr.elim
end
end Mm
namespace Mm
open PySem PySem.Spec PyProof.Rows
section
variable {P : Program} {w : World} {A : Around} {E : Value → Shared → Prop} {s : Shared}
theorem call_setT_tuple {l : Addr} {items : Array Value} {xs : List Str} {Q : Value → Shared → Prop} (hh : A.handled = none) (hl : s.heap.IsTuple l items) (hi : StrsAre items.toList xs) (hb : xs.length + 1 < scanBound)
    (fin : ∀ h' tk, SetMade P w s xs h' → Q (.ref s.heap.objs.size) { s with heap := h', toks := tk }) : wpAny (model P w) A (call (.type "set") [.ref l]) Q E s := by
  obtain ⟨c, tl, hmro⟩ := PySem.F.called_set.mro
  have f1 := PySem.F.called_set.made
  have f2 := PySem.F.called_set.sub
  have f3 := PySem.F.called_set.notType
  have f4 := PySem.F.called_set.canCreate
  have f5 := PySem.F.typeCall_set_1 (.ref l)
  refine wpAny_call (codeAny_of_tree ?_)
  show wpAny _ _ (callAny (.type "set") _) _ _ _
  refine wpAny_pure ⟨Code.quiet_builtin _ (by decide +kernel), codeAny_builtin PySem.F.entry_type_call ?_⟩
  rw [Around.under_plain (weight_type_call_type "set" [.ref l] []) rfl]
  repeat (any_goals (first | assumption | wp_step))
  refine codeAny_mono (code_set_new_1 (.ref l) (E := E) (Q₁ := fun obj s₁ => ∃ led : Bool, obj = .ref s.heap.objs.size ∧ s₁ = { s with heap := s.heap.push (newSet led) }) fun led => ⟨led, rfl, rfl⟩) fun r s₁ hr => ?_
  cases r with
  | error e => exact hr
  | ok fl =>
    cases fl with
    | ret obj =>
      obtain ⟨led, rfl, rfl⟩ := hr
      have at0 : (s.heap.push (newSet led)).get? s.heap.objs.size = some (newSet led) := Heap.get?_push_size _ rfl
      have ty : Shared.TypeIs { s with heap := s.heap.push (newSet led) } (.ref s.heap.objs.size) "set" := ⟨_, at0, rfl⟩
      have g1 := PySem.F.called_set.init.lookup
      have g2 := PySem.F.called_set.init.bind (.ref s.heap.objs.size)
      repeat (any_goals (first | assumption | wp_step))
      refine codeAny_mono (codeAny_call_builtin (R := wants (fun r s₂ => r = .none ∧ ∃ h' tk, s₂ = { s with heap := h', toks := tk } ∧ SetMade P w s xs h') E) PySem.F.called_set.init.plain PySem.F.entry_set_init (check_set_init_1 ty ?_)) fun r₂ s₂ hr₂ => ?_
      · have ll : l < s.heap.objs.size := by
          obtain ⟨o, ho, _⟩ := hl
          exact Heap.lt_size ho
        obtain ⟨ol, hol, hcl, nl, hdl⟩ := hl
        obtain ⟨ocls, odict, odata, oslots⟩ := ol
        simp only at hcl hdl
        subst hcl hdl
        have al : (s.heap.push (newSet led)).get? l = some { cls := .type "tuple", dict := odict, data := .seq items nl, slots := oslots } := Heap.get?_push_of_some _ hol
        have k1 := PySem.F.sub_tuple_set
        have k2 := PySem.F.sub_tuple_frozenset
        have k3 : (Value.type "tuple" == Value.type "dict") = false := by decide
        have il : (s.heap.push (newSet led)).IsTuple l items := ⟨_, al, rfl, nl, rfl⟩
        unfold Builtin.«set.__init__» noKeywords Builtin.Frozenset.updateFrom
        generalize hPI : pyIter = PI
        wp_walk
        subst hPI
        refine wpAny_pyIter_tuple il (wpAny_bind (wpAny_runValue ?_))
        have ne : l ≠ (s.heap.push (newSet led)).objs.size := by
          rw [Heap.size_push]
          exact Nat.ne_of_lt (Nat.lt_succ_of_lt ll)
        refine init_fin (l := l) (items := items) (xs := xs) (Walks.tuple (by simp [hh]) _ l ne items) rfl ll hi hb _ rfl ⟨⟨_, Heap.get?_push_size _ rfl, rfl, rfl⟩, il.push _⟩ fun h' tk m => ?_
        refine wpAny_pure ?_
        show wpAny _ _ (ret Value.none) _ _ _
        exact wpAny_pure ⟨rfl, h', tk, rfl, m⟩
      · cases r₂ with
        | error e => exact hr₂
        | ok fl₂ =>
          cases fl₂ with
          | ret r =>
            obtain ⟨rfl, h', tk, rfl, m⟩ := hr₂
            repeat (any_goals (first | assumption | wp_step))
            exact fin _ _ m
          | _ => exact hr₂.elim
    | _ => exact hr.elim
end
end Mm
namespace Mm
open PySem L2
def strsD : List D → Option (List Str)
  | [] => some []
  | .str x :: ds => (strsD ds).map (x :: ·)
  | _ => none
theorem strsD_rep {g : Gam} {w : Wd} : ∀ {ds : List D} {xs : List Str} {vs : List V}, strsD ds = some xs → RepL g w ds vs → vs = xs.map V.str
  | [], xs, vs, h, r => by
    cases h
    unfold RepL at r
    subst r
    rfl
  | .str x :: ds, xs, vs, h, r => by
    unfold strsD at h
    cases z : strsD ds with
    | none => rw [z] at h; cases h
    | some ys =>
      rw [z] at h
      cases h
      unfold RepL at r
      obtain ⟨v, vs', rfl, q, r⟩ := r
      rw [strsD_rep z r, rep_str q]
      rfl
  | .int _ :: _, _, _, h, _ => by cases h
  | .bl _ :: _, _, _, h, _ => by cases h
  | .non :: _, _, _, h, _ => by cases h
  | .lst _ :: _, _, _, h, _ => by cases h
  | .tup _ :: _, _, _, h, _ => by cases h
  | .ref _ :: _, _, _, h, _ => by cases h
  | .ins _ _ :: _, _, _, h, _ => by cases h
  | .scr _ :: _, _, _, h, _ => by cases h
  | .ty _ :: _, _, _, h, _ => by cases h
  | .cls _ :: _, _, _, h, _ => by cases h
  | .adr _ :: _, _, _, h, _ => by cases h
section
variable {X : Cx} {Y : Gam} {W : WX} {a : Expr} {ta : TE} {ma : ME} {p p2 q pos : Pos}
def tLenTx (K : PySem.W.Frag) (ta : TE) : TE := fun σ H Q => ta σ H fun x H1 => ∃ l, ∃ xs : List Str, x = .ref l ∧ (SqL K H1 l (xs.map V.str) ∨ SqT K H1 l (xs.map V.str)) ∧ xs.length ≤ 1000 ∧ Q (.int (dT xs).length) H1
theorem pe_lenTx (hc : X.calm = true) (hg : Gl X "len") (hm : X.mg "len" = none) (hg2 : Gl X "set") (hm2 : X.mg "set" = none) (ha : PE X a ta) (na : starEach [a] X.env = (false, eval a X.env) :: starEach [] X.env := by rfl) :
    PE X (.Call (.Name "len" p) [.Call (.Name "set" p2) [a] [] q] [] pos) (tLenTx X.K ta) := by
  refine ⟨fun pins s σ H Q I h => ?_⟩
  refine PyProof.Rows.Call_ (ld_blt I hg hm boot_len (PyProof.Rows.callWith_builtin1 (PyProof.Rows.args_cons ?_ rfl) rfl rfl))
  refine PyProof.Rows.Call_ (ld_blt I hg2 hm2 (by decide +kernel : bootBuiltins "set" = some (.type "set")) (PyProof.Rows.callWith_type1 (PyProof.Rows.args_cons (thn (ha.run pins s σ H _ I h) fun v s1 ⟨x, H1, I1, r1, q1⟩ => PyProof.Rows.args_nil ?_) na) na rfl))
  obtain ⟨l, xs, rfl, hq, h1, q1⟩ := q1
  cases r1
  have fin : ∀ (h' : Heap) (tk : Nat), SetMade X.prog X.w s1 xs h' → wpAny (model X.prog X.w) X.A (PySem.spliced (backTo pos (starEach [] X.env))) (fun vs s₂ => wpAny (model X.prog X.w) X.A (call (.builtin "len") (Value.ref s1.heap.objs.size :: vs)) (EP X pins σ Q) X.xe s₂) X.xe { s1 with heap := h', toks := tk } := fun h' tk m => by
    refine PyProof.Rows.args_nil ?_
    obtain ⟨⟨o, es, ep, t, ho, hex, hd, _, _, _, hf, hn⟩, hk⟩ := m
    have I2 : Inv X pins σ H1 { s1 with heap := h', toks := tk } := I1.kept fun b o e => hk b o (Heap.lt_size e) e
    have le := dT_len xs
    exact call_len_set ho hex hd hf (by rw [hn]; omega) ⟨.int (dT xs).length, H1, I2.tok _, ⟨_, by rw [hn]⟩, q1⟩
  have sb : xs.length + 1 < PySem.scanBound := by unfold PySem.scanBound; omega
  rcases hq with hq | hq
  · obtain ⟨its, r, pl, hz⟩ := I1.list hq
    exact call_setT_list (I1.ok.hd hc) pl.isList (by simpa using strsAre_of r) sb fin
  · obtain ⟨its, r, pl, hz⟩ := I1.tuple hq
    exact call_setT_tuple (I1.ok.hd hc) pl (by simpa using strsAre_of r) sb fin
def lenTx (ds : List D) (S : Sto) : R D := match strsD ds with
  | some xs => if xs.length ≤ 1000 then .ok (.int (dT xs).length) S else .stuck
  | none => .stuck
def eLenTx (me : ME) : ME := fun env S => (me env S).bind fun d S1 => match d with
  | .lst ds => lenTx ds S1
  | .tup ds => lenTx ds S1
  | _ => .stuck
theorem lenTx_cases (ds : List D) (S : Sto) : lenTx ds S = .stuck ∨ ∃ xs, strsD ds = some xs ∧ xs.length ≤ 1000 ∧ lenTx ds S = .ok (.int (dT xs).length) S := by
  unfold lenTx
  cases z : strsD ds with
  | none => exact .inl rfl
  | some xs =>
    by_cases h : xs.length ≤ 1000
    · exact .inr ⟨xs, rfl, h, if_pos h⟩
    · exact .inl (if_neg h)
theorem s_lenTx (hms : X.mg "set" = none) (hml : X.mg "len" = none) (ha : SE X Y W a ta ma) (hc : X.calm = true := by rfl) (hK : X.K = Y.K := by rfl) (hg : Gl X "set" := by rfl) (hgl : Gl X "len" := by rfl) (na : starEach [a] X.env = (false, eval a X.env) :: starEach [] X.env := by rfl) :
    SE X Y W (.Call (.Name "len" p) [.Call (.Name "set" p2) [a] [] q] [] pos) (tLenTx Y.K ta) (eLenTx ma) := ⟨hK ▸ pe_lenTx hc hgl hml hg hms ha.pe na, fun w0 H0 w H σ env S O Q st pp =>
  ha.sim w0 H0 w H σ env S O _ st ((PostX.bind pp).imp fun d S1 w1 H1 st1 l1 p1 v r => by
    cases d with
    | lst ds =>
      obtain ⟨a, vs, e1, e2, e3⟩ := rep_lst r
      rcases lenTx_cases ds S1 with z | ⟨xs, z, hz, e⟩
      · change PostX Y W w0 H0 w1 σ env O (lenTx ds S1) _ at p1
        rw [z] at p1
        exact False.elim p1
      · change PostX Y W w0 H0 w1 σ env O (lenTx ds S1) _ at p1
        rw [e] at p1
        have ev := strsD_rep z e3
        subst ev
        exact ⟨a, xs, e1, .inl (.inl (.inl (st1.ok.ex _ _ e2))), hz, p1 w1 H1 st1 (.refl w1) _ rep_int'⟩
    | tup ds =>
      obtain ⟨a, vs, e1, e2, e3⟩ := rep_tup r
      rcases lenTx_cases ds S1 with z | ⟨xs, z, hz, e⟩
      · change PostX Y W w0 H0 w1 σ env O (lenTx ds S1) _ at p1
        rw [z] at p1
        exact False.elim p1
      · change PostX Y W w0 H0 w1 σ env O (lenTx ds S1) _ at p1
        rw [e] at p1
        have ev := strsD_rep z e3
        subst ev
        exact ⟨a, xs, e1, .inr (same_sqT st1.ok.ex e2), hz, p1 w1 H1 st1 (.refl w1) _ rep_int'⟩
    | _ => exact False.elim p1)⟩
end
end Mm
namespace Mm
open PySem L2
def KnKP (P : Program) (w : World) (K : PySem.W.Frag) (mg : Str → Option Value) (base : Heap) (Y : Gam) (k : Nat) (x : Str) (n : Nat) (ks : List Str) (pi : List Nat) (mf : MFn) : Prop :=
  ∃ (f : Addr) (fd : FuncData) (ps : List Str), FnOk P w K mg base (L2N.CX P w) k f fd ps (spOf Y (n + ks.length) mf) ∧ mg x = some (.ref f) ∧ PySem.W.keepIn K (.ref f) = true ∧ KBn K fd ps n ks (fun us ws => us ++ pick pi ws) (fun vs zs => vs ++ pick pi zs)
section
variable {X : Cx} {Y : Gam} {W : WX} {e : Expr} {es : List Expr} {te : TE} {me : ME} {p pos kpos : Pos} {kws : List Keyword} {t tk : TA} {m mk : MA} {nm : Str} {x : Str} {k n nk : Nat} {mf : MFn} {ks : List Str} {pi : List Nat}
theorem u_callKP (h : KnKP X.prog X.w X.K X.mg X.base Y k x n ks pi mf) (hr : Room k X.A) (tk' : L2N.Takes X W) (ha : SA X Y W (e :: es) t m) (hk : SK X Y W kws tk mk) (hpi : pickB pi ks.length = true := by decide) (hn : (e :: es).length = n := by rfl) (hnk : kws.length = ks.length := by rfl) (hg : Gl X x := by rfl)
    (hall : (backToKw pos (keywordEach kws X.env)).all (·.1.isSome) = true := by rfl) (hks : (backToKw pos (keywordEach kws X.env)).filterMap (·.1) = ks := by rfl)
    (hdb : (x == ("__debug__" : Str)) = false := by decide) (he : starEach (e :: es) X.env = (false, eval e X.env) :: starEach es X.env := by rfl)
    (hpl : ((backTo pos (starEach (e :: es) X.env)).any (·.1) || (backToKw pos (keywordEach kws X.env)).any (·.1.isNone)) = false := by rfl) :
    SE X Y W (.Call (.Name x p) (e :: es) kws pos) (fun σ => tCallN n ks.length (spOf Y (n + ks.length) mf) (fun vs zs => vs ++ pick pi zs) (WE W σ) t tk σ) (eCall mf [] (aCat m (aPick pi mk))) := by
  obtain ⟨f, fd, ps, F, hm, hkp, hb⟩ := h
  unfold pickB at hpi
  rw [Bool.and_eq_true, List.all_eq_true, beq_iff_eq] at hpi
  obtain ⟨z1, z2⟩ := hpi
  refine ⟨pe_callNS (E := WE W) F hr hg hm hkp hb (fun σ => L2N.passAt tk' σ) ha.pa hk.pk hall hks hdb he hpl, fun w0 H0 w H σ env S O Q st p => ?_⟩
  have eb : ∀ {α : Type} (F : List D → Sto → R α), (aCat m (aPick pi mk) env S).bind F = (m env S).bind fun as S1 => (mk env S1).bind fun bs S2 => F (as ++ pick pi bs) S2 := fun F => by
    unfold aCat aPick
    cases m env S with
    | stuck => rfl
    | exc c q s => rfl
    | ok d s =>
      show (((mk env s).bind fun ds S1 => R.ok (pick pi ds) S1).bind fun es S2 => R.ok (d ++ es) S2).bind F = (mk env s).bind fun bs S2 => F (d ++ pick pi bs) S2
      cases mk env s <;> rfl
  have p : PostX Y W w0 H0 w σ env O ((m env S).bind fun as S1 => (mk env S1).bind fun bs S2 => (mf (as ++ pick pi bs ++ []) S2).bind fun r S3 => .ok r.d S3) (fun d _ w' H' => ∀ v, Rep Y w' d v → Q v H') := by
    have p := p
    unfold eCall at p
    rw [eb] at p
    exact p
  refine ha.sim w0 H0 w H σ env S O _ st ?_
  have p2 := PostX.bind p
  cases e1 : m env S with
  | stuck => rw [e1] at p2; exact p2
  | exc c q S2 => rw [e1] at p2; exact p2
  | ok as S1 =>
    rw [e1] at p2
    intro w1 H1 st1 l1 vs rs
    have p3 := p2 w1 H1 st1 l1
    refine hk.sim w0 H0 w1 H1 σ env S1 O _ st1 ?_
    have p4 := PostX.bind p3
    cases e2 : mk env S1 with
    | stuck => rw [e2] at p4; exact p4
    | exc c q S2 => rw [e2] at p4; exact p4
    | ok bs S2 =>
      rw [e2] at p4
      intro w2 H2 st2 l2 zs rz
      have p5 : PostX Y W w0 H0 w2 σ env O ((mf (as ++ pick pi bs ++ []) S2).bind fun r S3 => .ok r.d S3) (fun d _ w' H' => ∀ v, Rep Y w' d v → Q v H') := p4 w2 H2 st2 l2
      have l1' := (ha.len _ _ _ _ e1).trans hn
      have l2' := (hk.len _ _ _ _ e2).trans hnk
      have hlt : ∀ i ∈ pi, i < bs.length := fun i hi => by rw [l2']; exact of_decide_eq_true (z2 i hi)
      have r2 := (rs.mono l2).append_ (rz.pick hlt)
      rw [List.append_nil] at p5
      refine ⟨by rw [← rs.len]; exact l1', by rw [← rz.len]; exact l2', ?_, w2, as ++ pick pi bs, S2, st2.ok, r2, post_val st2 p5⟩
      rw [← r2.len, List.length_append, l1', pick_len hlt, z1]
theorem knKP_of {P : Program} {w : World} {K : PySem.W.Frag} {mg : Str → Option Value} {base : Heap} {Y : Gam} {k n m : Nat} {x qual : Str} {st : Stmt} {f : Addr} {fd : FuncData} {ps ks : List Str} {pi : List Nat} {mf : MFn} {dv : List V} {kws : List (Str × V)}
    (F : FnPk K x qual st dv kws f fd) (g : mg x = some (.ref f)) (b : KBn K fd ps n ks (fun us ws => us ++ pick pi ws) (fun vs zs => vs ++ pick pi zs)) (h : FnOk P w K mg base (L2N.CX P w) k f fd ps (spOf Y m mf)) (hm : m = n + ks.length := by rfl) : KnKP P w K mg base Y k x n ks pi mf :=
  ⟨f, fd, ps, by rw [hm] at h; exact h, g, F.kp, b⟩
end
end Mm
namespace Mm
open PySem L2
@[simp] theorem eLenTx_eq (me : ME) (env : Envr) (S : Sto) : eLenTx me env S = (me env S).bind fun d S1 => match d with
  | .lst ds => lenTx ds S1
  | .tup ds => lenTx ds S1
  | _ => .stuck := rfl
end Mm
namespace Mm
open PySem PySem.Spec PyProof.Rows L2
def SqB (K : PySem.W.Frag) : Bool → Hp → Addr → List V → Prop
  | true => SqL K
  | false => SqT K
def ItB : Bool → Heap → Addr → Addr → Nat → Prop
  | true, h, it, a, i => h.IsListIter it a i
  | false, h, it, a, i => h.IsTupleIter it a i
def SqH : Bool → Heap → Addr → Array Value → Prop
  | true, h, a, xs => h.IsList a xs
  | false, h, a, xs => h.IsTuple a xs
def itO : Bool → Addr → Obj
  | true, a => { cls := .type "list_iterator", data := .fields #[.ref a, .int 0 0] }
  | false, a => { cls := .type "tuple_iterator", data := .fields #[.ref a, .int 0 0] }
section
variable {prog : Program} {w : World} {A : Around}
theorem drB (k : Bool) (hh : A.handled = none) (it a : Addr) (ne : a ≠ it) (xs : Array Value) : Draws prog w A it [it, a] xs.size (fun i v => xs[i]? = some v) (fun i h => ItB k h it a i ∧ SqH k h a xs) :=
  match k with
  | true => Draws.list hh it a ne xs
  | false => Draws.tuple hh it a ne xs
theorem bgB (k : Bool) (a : Addr) (xs : Array Value) : Begins (.ref a) (itO k a) (fun h => SqH k h a xs) :=
  match k with
  | true => begins_list a xs
  | false => begins_tuple a xs
end
theorem ItB.at_ {k : Bool} {h h' : Heap} {it a : Addr} {i : Nat} (x : ItB k h it a i) (e : ∀ o, h.get? it = some o → h'.get? it = some o) : ItB k h' it a i :=
  match k, x with
  | true, x => Heap.IsListIter.at x e
  | false, x => Heap.IsTupleIter.at x e
theorem ItB.obj {k : Bool} {h : Heap} {it a : Addr} {i : Nat} (x : ItB k h it a i) : ∃ o, h.get? it = some o ∧ ∀ v, o.data ≠ .cell v :=
  match k, x with
  | true, ⟨o, e, _, d⟩ => ⟨o, e, fun v z => by rw [d] at z; cases z⟩
  | false, ⟨o, e, _, d⟩ => ⟨o, e, fun v z => by rw [d] at z; cases z⟩
theorem itO_it (k : Bool) {h : Heap} {it a : Addr} (e : h.get? it = some (itO k a)) : ItB k h it a 0 :=
  match k, e with
  | true, e => ⟨_, e, rfl, rfl⟩
  | false, e => ⟨_, e, rfl, rfl⟩
section
variable {X : Cx} {pins : List (Addr × Obj)} {σ : L2.St} {H : Hp} {s : Shared}
theorem inv_sqB {k : Bool} {a : Addr} {xs : List V} (I : Inv X pins σ H s) (h : SqB X.K k H a xs) : ∃ its : List Value, Vals xs its ∧ SqH k s.heap a its.toArray ∧ a < s.heap.objs.size :=
  match k, h with
  | true, h => by
    obtain ⟨its, r, p, _⟩ := I.list h
    exact ⟨its, r, p.isList, p.lt⟩
  | false, h => by
    obtain ⟨its, r, p, _⟩ := I.tuple h
    obtain ⟨o, e, _⟩ := id p
    exact ⟨its, r, p, Heap.lt_size e⟩
theorem sqB_inj {k : Bool} {a : Addr} {xs ys : List V} (I : Inv X pins σ H s) (h : SqB X.K k H a xs) (h' : SqB X.K k H a ys) : xs = ys :=
  match k, h, h' with
  | true, h, h' => I.list_inj h h'
  | false, h, h' => I.tuple_inj h h'
end
def IzB (K : PySem.W.Frag) (k1 k2 : Bool) (a b : Addr) : It where
  go i H := ∃ (us vs : List V) (u v : V), SqB K k1 H a us ∧ SqB K k2 H b vs ∧ us[i]? = some u ∧ vs[i]? = some v
  yld i H x H' := ∃ T u v, x = .ref T ∧ H T = none ∧ H' = upd H T (.tup [u, v]) ∧ (∀ us, SqB K k1 H a us → us[i]? = some u) ∧ (∀ vs, SqB K k2 H b vs → vs[i]? = some v)
  stop i H := ∃ us vs : List V, SqB K k1 H a us ∧ SqB K k2 H b vs ∧ i = min us.length vs.length
structure ApB (z TI TO i1 i2 a b : Addr) : Prop where
  sep : ZipSep2 z TI TO i1 i2 [i1, a] [i2, b]
  n1 : a ≠ i1
  n2 : b ≠ i2
theorem apB_of {N a b : Nat} (la : a < N) (lb : b < N) : ApB (N + 4) (N + 2) (N + 3) N (N + 1) a b := by
  constructor
  · constructor
    · show ¬ (N + 2 = N + 4); omega
    · show ¬ (N + 3 = N + 4); omega
    · show ¬ (N + 2 = N + 3); omega
    · show ¬ (N + 2 = N); omega
    · simp
    · show ¬ (N + 4 ∈ [N, a]); simp; omega
    · show ¬ (N + 3 ∈ [N, a]); simp; omega
    · show ¬ (N + 2 = N + 1); omega
    · simp
    · show ¬ (N + 4 ∈ [N + 1, b]); simp; omega
    · show ¬ (N + 3 ∈ [N + 1, b]); simp; omega
    · show ¬ (N ∈ [N + 1, b]); simp; omega
    · show ¬ (N + 1 ∈ [N, a]); simp; omega
  · show ¬ (a = N); omega
  · show ¬ (b = N + 1); omega
theorem turn_zipB {P : Program} {w : World} {K : PySem.W.Frag} {elts : List Expr} {kk : Nat} {tpos : Pos} {k1 k2 : Bool} {a b z TI TO i1 i2 : Addr} (D : ApB z TI TO i1 i2 a b) :
    Turn P w K (.Tuple elts kk tpos) (IzB K k1 k2 a b) [z, TI, TO, i1, i2] z (fun i h => IsZip h z TI TO .none ∧ IsTupOf2 h TI (.ref i1) (.ref i2) ∧ (∃ x y, IsTupOf2 h TO x y) ∧ ItB k1 h i1 a i ∧ ItB k2 h i2 b i) where
  mem := List.mem_cons_self
  obj := fun i h st c hc => by
    obtain ⟨hz, hI, ⟨x, y, hO⟩, h1, h2⟩ := st
    simp only [List.mem_cons, List.not_mem_nil, or_false] at hc
    rcases hc with rfl | rfl | rfl | rfl | rfl
    · exact ⟨_, hz, fun v q => nomatch q⟩
    · exact ⟨_, hI, fun v q => nomatch q⟩
    · exact ⟨_, hO, fun v q => nomatch q⟩
    · exact h1.obj
    · exact h2.obj
  keep := fun i h h' st k => by
    obtain ⟨hz, hI, ⟨x, y, hO⟩, h1, h2⟩ := st
    exact ⟨k z (by simp) _ hz, k TI (by simp) _ hI, ⟨x, y, k TO (by simp) _ hO⟩, h1.at_ (k i1 (by simp)), h2.at_ (k i2 (by simp))⟩
  item := by
    intro X hP hw hK hc i pins s σ H E I hf st hg
    subst hP hw hK
    obtain ⟨us, vs, u, v, q1, q2, e1, e2⟩ := hg
    obtain ⟨its1, r1, p1, l1⟩ := inv_sqB I q1
    obtain ⟨its2, r2, p2, l2⟩ := inv_sqB I q2
    obtain ⟨u', eu, ru⟩ := r1.get e1
    obtain ⟨v', ev, rv⟩ := r2.get e2
    have hd : X.A.in1.handled = none := I.ok.hd hc
    have W := WalksT.zipD2 (prog := X.prog) (w := X.w) (A := X.A) D.sep (drB k1 hd i1 a D.n1 its1.toArray) (drB k2 hd i2 b D.n2 its2.toArray)
    obtain ⟨hz, hI, hO, h1, h2⟩ := st
    have hl1 : i < its1.length := (List.getElem?_eq_some_iff.mp eu).1
    have hl2 : i < its2.length := (List.getElem?_eq_some_iff.mp ev).1
    refine W.item i s _ _ (by simp; omega) ⟨hz, hI, hO, ⟨h1, p1⟩, ⟨h2, p2⟩⟩ fun T vals h' tk hv hT ht hm hk => ?_
    refine ⟨_, rfl, W.go elts kk tpos i T _ _ _ hm fun h'' st2 hk2 => ?_⟩
    obtain ⟨x1, x2, y1, y2, rfl⟩ := hv
    have f1 : x1 = u' := by
      have y1 : its1.toArray[i]? = some x1 := y1
      rw [List.getElem?_toArray, eu] at y1
      cases y1; rfl
    have f2 : x2 = v' := by
      have y2 : its2.toArray[i]? = some x2 := y2
      rw [List.getElem?_toArray, ev] at y2
      cases y2; rfl
    subst f1 f2
    have kk2 : ∀ c o, c ∉ [z, TO, i1, i2] → s.heap.get? c = some o → h''.get? c = some o := fun c o hc e => hk2 c o hc (hk c o hc e)
    have ht2 : h''.IsTuple T #[x1, x2] := ht.at fun o e => hk2 T o (W.apart i T h' hm) e
    have new : ObjOk X.prog X.w (upd H T (.tup [u, v])) h'' T (.tup [u, v]) := by
      obtain ⟨o, a1, a2, a3, a4⟩ := ht2
      exact ⟨by show 2 ≤ sizeLine; decide, [x1, x2], .cons ru (.cons rv .nil), o, a1, a2, a3, a4⟩
    have I1 : Inv X pins σ (upd H T (.tup [u, v])) { s with heap := h'', toks := tk } := I.turnedNew (t' := tk) (ch := [z, TI, TO, i1, i2]) (fun c o hb e => kk2 c o (fun m => hb (by
      simp only [List.mem_cons, List.not_mem_nil, or_false] at m ⊢
      rcases m with rfl | rfl | rfl | rfl <;> simp)) e) hf hT new
    refine ⟨.ref T, _, I1, rfl, ⟨T, u, v, rfl, I.hok.fresh hT, rfl, fun l hl => by rw [sqB_inj I hl q1]; exact e1, fun l hl => by rw [sqB_inj I hl q2]; exact e2⟩, ?_, fun c hc => ?_⟩
    · obtain ⟨a1, a2, a3, a4, a5⟩ := st2
      exact ⟨a1, a2, a3, a4.1, a5.1⟩
    · have lc : c < s.heap.objs.size := by
        simp only [List.mem_cons, List.not_mem_nil, or_false] at hc
        obtain ⟨x0, y0, hO⟩ := hO
        rcases hc with rfl | rfl | rfl | rfl | rfl
        · exact Heap.lt_size hz
        · exact Heap.lt_size hI
        · exact Heap.lt_size hO
        · obtain ⟨_, e, _⟩ := h1.obj; exact Heap.lt_size e
        · obtain ⟨_, e, _⟩ := h2.obj; exact Heap.lt_size e
      rw [upd_ne (fun e => by subst e; exact absurd lc (Nat.not_lt.mpr hT))]
      exact (hf c hc).1
  done := by
    intro X hP hw hK hc i pins s σ H E I hf st hg
    subst hP hw hK
    obtain ⟨us, vs, q1, q2, ei⟩ := hg
    obtain ⟨its1, r1, p1, l1⟩ := inv_sqB I q1
    obtain ⟨its2, r2, p2, l2⟩ := inv_sqB I q2
    have n1 := r1.length
    have n2 := r2.length
    have hd : X.A.in1.handled = none := I.ok.hd hc
    have W := WalksT.zipD2 (prog := X.prog) (w := X.w) (A := X.A) D.sep (drB k1 hd i1 a D.n1 its1.toArray) (drB k2 hd i2 b D.n2 its2.toArray)
    obtain ⟨hz, hI, hO, h1, h2⟩ := st
    have en : i = min its1.toArray.size its2.toArray.size := by simp; omega
    subst en
    exact W.done s _ _ ⟨hz, hI, hO, ⟨h1, p1⟩, ⟨h2, p2⟩⟩ fun h' tk hk => ⟨rfl, I.turnedL (t' := tk) (ch := [z, TI, TO, i1, i2]) (fun c o hb e => hk c o (fun m => hb (by
      simp only [List.mem_cons, List.not_mem_nil, or_false] at m ⊢
      rcases m with rfl | rfl | rfl | rfl <;> simp)) e) hf⟩
  self := fun A i s Q E st h => wpAny_pyIter_zip st.1 h
def wZipB (K : PySem.W.Frag) (ta : TA) : TI := fun σ H R => ta σ H fun vs H1 => ∃ a b us ws k1 k2, vs = [.ref a, .ref b] ∧ SqB K k1 H1 a us ∧ SqB K k2 H1 b ws ∧ R (IzB K k1 k2 a b) H1
section
variable {X : Cx} {Y : Gam} {W : WX} {e e2 : Expr} {t : TA} {m : MA} {p pos tpos : Pos} {elts : List Expr} {kk : Nat}
theorem pi_zipB (hg : Gl X "zip") (hm : X.mg "zip" = none) (ha : PA X [e, e2] t)
    (hs : starEach [e, e2] X.env = (false, eval e X.env) :: starEach [e2] X.env := by rfl) (hpl : (backTo pos (starEach [e2] X.env)).any (·.1) = false := by rfl) :
    PI X (.Tuple elts kk tpos) (.Call (.Name "zip" p) [e, e2] [] pos) (wZipB X.K t) := by
  refine ⟨fun pins s σ H R I h => ?_⟩
  refine Call_ (ld_blt I hg hm PyProof.Rows.boot_zip (PyProof.Rows.callWith_type1 (thn (ha.run pos pins s σ H _ I h) fun us s1 ⟨vs, H1, I1, r1, q1⟩ => ?_) hs hpl))
  obtain ⟨a, b, xs, ys, k1, k2, ex, c1, c2, q⟩ := q1
  subst ex
  cases r1 with
  | cons r rr =>
    cases rr with
    | cons r' rr =>
      cases rr
      cases r
      cases r'
      obtain ⟨its1, v1, p1, l1⟩ := inv_sqB I1 c1
      obtain ⟨its2, v2, p2, l2⟩ := inv_sqB I1 c2
      refine zip_begins2 (bgB k1 a its1.toArray) (bgB k2 b its2.toArray) p1 p2 fun h' hz hI hO o1 o2 hsz hk => wpAny_pyIter_zip hz ?_
      have I2 : Inv X pins σ H1 { s1 with heap := h' } := I1.kept (t' := s1.toks) hk
      have D := apB_of l1 l2
      refine ⟨s1.heap.objs.size + 4, [s1.heap.objs.size + 4, s1.heap.objs.size + 2, s1.heap.objs.size + 3, s1.heap.objs.size, s1.heap.objs.size + 1], _, _, H1, rfl, I2, turn_zipB (k1 := k1) (k2 := k2) D, ⟨hz, hI, ⟨_, _, hO⟩, itO_it k1 o1, itO_it k2 o2⟩, fun c hc => ?_, q⟩
      have hle : s1.heap.objs.size ≤ c := by
        simp only [List.mem_cons, List.not_mem_nil, or_false] at hc
        rcases hc with rfl | rfl | rfl | rfl | rfl
        · exact Nat.le_add_right _ _
        · exact Nat.le_add_right _ _
        · exact Nat.le_add_right _ _
        · exact Nat.le_refl _
        · exact Nat.le_add_right _ _
      exact I1.fpOk hle (I1.hok.fresh hle)
theorem itR_zipB {g : Gam} {w : Wd} {k1 k2 : Bool} {a b : Addr} {ds es : List D} {vs us : List V} (e1 : ∀ (w2 : Wd) (H2 : Hp), w.le w2 → Same w2.G H2 → SqB g.K k1 H2 a vs) (r : RepL g w ds vs) (e3 : ∀ (w2 : Wd) (H2 : Hp), w.le w2 → Same w2.G H2 → SqB g.K k2 H2 b us) (r' : RepL g w es us) : ItR g w (IzB g.K k1 k2 a b) (zipD ds es) := fun w2 H2 l x => by
  have q := e1 w2 H2 l x
  have q' := e3 w2 H2 l x
  refine ⟨fun i d hd => ?_, ⟨vs, us, q, q', by rw [zipD_len, r.len, r'.len]⟩⟩
  obtain ⟨d1, d2, h1, h2, ed⟩ := zipD_at ds es i d hd
  obtain ⟨v, hv, rv⟩ := r.at_ h1
  obtain ⟨u, hu, ru⟩ := r'.at_ h2
  refine ⟨⟨vs, us, v, u, q, q', hv, hu⟩, fun y H' hy => ?_⟩
  obtain ⟨T, x', y', e1, e2, e3, e4, e5⟩ := hy
  have e6 := e4 vs q
  have e7 := e5 us q'
  rw [hv] at e6
  rw [hu] at e7
  cases e6
  cases e7
  rw [e1, e3, ed]
  refine ⟨_, Grow.one e2 nt_tup, ?_⟩
  unfold Rep
  have le : w2.le ⟨w2.rho, upd w2.G T (.tup [v, u])⟩ := ⟨⟨[], by simp⟩, same_upd (none_of_same x e2)⟩
  exact ⟨T, _, rfl, .inl (.inl upd_same), RepL.cons_ ((rv.mono l).mono le) (RepL.cons_ ((ru.mono l).mono le) RepL.nil_)⟩
def D.seq : D → Option (Bool × List D)
  | .lst ds => some (true, ds)
  | .tup ds => some (false, ds)
  | _ => none
theorem rep_seq {g : Gam} {w : Wd} {d : D} {k : Bool} {ds : List D} {v : V} (h : d.seq = some (k, ds)) (r : Rep g w d v) : ∃ a vs, v = .ref a ∧ RepL g w ds vs ∧ ∀ (w2 : Wd) (H2 : Hp), w.le w2 → Same w2.G H2 → SqB g.K k H2 a vs := by
  cases d with
  | lst xs =>
    cases h
    obtain ⟨a, vs, e1, e2, e3⟩ := rep_lst r
    exact ⟨a, vs, e1, e3, fun w2 H2 l x => .inl (.inl (x _ _ (l.ex _ _ e2)))⟩
  | tup xs =>
    cases h
    obtain ⟨a, vs, e1, e2, e3⟩ := rep_tup r
    exact ⟨a, vs, e1, e3, fun w2 H2 l x => same_sqT (l.ex.trans x) e2⟩
  | _ => cases h
def itZB (m : MA) : MI := fun env S => (m env S).bind fun ds S1 => match ds with
  | [x, y] => (match x.seq, y.seq with
    | some (_, xs), some (_, ys) => .ok (zipD xs ys) S1
    | _, _ => .stuck)
  | _ => .stuck
theorem i_zipB (hm : X.mg "zip" = none) (ha : SA X Y W [e, e2] t m) (hK : X.K = Y.K := by rfl) (hg : Gl X "zip" := by rfl) (hs : starEach [e, e2] X.env = (false, eval e X.env) :: starEach [e2] X.env := by rfl) (hpl : (backTo pos (starEach [e2] X.env)).any (·.1) = false := by rfl) :
    SI X Y W (.Tuple elts kk tpos) (.Call (.Name "zip" p) [e, e2] [] pos) (wZipB Y.K t) (itZB m) := ⟨hK ▸ pi_zipB hg hm ha.pa hs hpl, fun w0 H0 w H σ env S O Q st p =>
  ha.sim w0 H0 w H σ env S O _ st ((PostX.bind p).imp fun ds S1 w1 H1 st1 l1 p1 vs r => by
    cases ds with
    | nil => exact False.elim p1
    | cons x ds =>
      cases ds with
      | nil => exact False.elim p1
      | cons y ds =>
        cases ds with
        | cons z ds => exact False.elim p1
        | nil =>
          simp only at p1
          cases zx : x.seq with
          | none => rw [zx] at p1; exact False.elim p1
          | some kx =>
            cases zy : y.seq with
            | none => rw [zx, zy] at p1; exact False.elim p1
            | some ky =>
              obtain ⟨k1, xs⟩ := kx
              obtain ⟨k2, ys⟩ := ky
              rw [zx, zy] at p1
              obtain ⟨v, u, e1, e2, e3⟩ := repL_two r
              obtain ⟨a, us, f1, f2, f3⟩ := rep_seq zx e2
              obtain ⟨b, ws, g1, g2, g3⟩ := rep_seq zy e3
              rw [f1, g1] at e1
              exact ⟨a, b, us, ws, k1, k2, e1, f3 _ _ (.refl _) st1.ok.ex, g3 _ _ (.refl _) st1.ok.ex, p1 w1 H1 st1 (.refl w1) _ (itR_zipB (g := Y) f3 f2 g3 g2)⟩)⟩
@[simp] theorem itZB_eq (m : MA) (env : Envr) (S : Sto) : itZB m env S = (m env S).bind fun ds S1 => match ds with
  | [x, y] => (match x.seq, y.seq with
    | some (_, xs), some (_, ys) => .ok (zipD xs ys) S1
    | _, _ => .stuck)
  | _ => .stuck := rfl
@[simp] theorem seq_lst (ds : List D) : (D.lst ds).seq = some (true, ds) := rfl
@[simp] theorem seq_tup (ds : List D) : (D.tup ds).seq = some (false, ds) := rfl
end
end Mm
namespace Fb
open PySem L2 Mm
noncomputable def m_need_sides : MFn := mFn 4 (sSeq (sAsg (mFrz (fLc (itL (eV 0)) (gT (gNC (gN 2) (gNC (gN 3) gN0))) cYes (eV 2) [2, 3])) (gN 1))
    (sSeq (sIf (cOr (cNot (cB (eCB fAll (aCons (mFrz (fLc (itL (eV 1)) (gN 2) cYes (eCall m_is_name [] (aCons (eV 2) aNil)) [2])) aNil)))) (cB (eOp iLt (eLenTx (eV 1)) (eCB fLen (aCons (eV 1) aNil))))) (sRaise "BadSides") sNil)
    (sSeq (sIf (cOr (cB (eOp (fInX false) (eC (.str "box")) (eV 1))) (cB (eOp (fInX false) (eC (.str "lane")) (eV 1)))) (sRaise "BadSides") sNil)
    (sSeq (sIf (cB (eCB fAny (aCons (mFrz (fLc (itL (eV 0)) (gT (gNC (gN 2) (gNC (gN 3) gN0))) cYes (eOr (eOp iLt (eV 3) (eC (.int 0))) (eOp iGt (eV 3) (eC (.int 12)))) [2, 3])) aNil))) (sRaise "BadSides") sNil)
    (sIf (cB (eOp iGt (eCB fSum (aCons (mFrz (fLc (itL (eV 0)) (gT (gNC (gN 2) (gNC (gN 3) gN0))) cYes (eV 3) [2, 3])) aNil)) (eC (.int 12)))) (sRaise "BadSides") sNil)))))
noncomputable def m_words_of : MFn := mFn 4 (sRetF (fLc2 (itL (eV 0)) (gT (gNC (gN 1) (gNC (gN 2) gN0))) cYes (itR1 (aCons (eV 2) aNil)) (gN 3) cYes (eFs [(eFmt (eV 1)), (eFmt (eV 3))] Str.empty) [1, 2, 3] [3]))
noncomputable def m_spread_text : MFn := mFn 10 (sSeq (sExpr (eCall m_need_sides [] (aCons (eV 1) aNil)))
    (sSeq (sAsg (eCall m_words_of [] (aCons (eV 1) aNil)) (gN 4))
    (sSeq (sIf (cOr (cB (eOp fNe (eCB fLen (aCons (eV 0) aNil)) (eOp dAdd (eV 2) (eV 3)))) (cB (eCB fAny (aCons (mFrz (fLc (itL (eV 0)) (gN 7) cYes (eOr (eOp iLt (eV 7) (eC (.int 0))) (eOp iGt (eOp iShr (eV 7) (eCB fLen (aCons (eV 4) aNil))) (eC (.int 0)))) [7])) aNil)))) (sRaise "BadRows") sNil)
    (sSeq (sOwn 5 (fLst aNil))
    (sSeq (sFor (itZB (aCons (eCall m_words_of [] (aCons (mFrz (fLst (aCons (eTup (aCons (eC (.str "box")) (aCons (eV 2) aNil))) (aCons (eTup (aCons (eC (.str "lane")) (aCons (eV 3) aNil))) aNil)))) aNil)) (aCons (eV 0) aNil))) (gT (gNC (gN 6) (gNC (gN 7) gN0))) (sIf (cB (eOp iGt (eV 7) (eC (.int 0)))) (sApp 5 (eOp fAddS (eOp fAddS (eV 6) (eC (.str " = "))) (eJoin (eC (.str " + ")) (mFrz (fLc (itES (aCons (eV 4) aNil)) (gT (gNC (gN 8) (gNC (gN 9) gN0))) (cB (eOp fEq (eOp iAnd (eOp iShr (eV 7) (eV 8)) (eC (.int 1))) (eC (.int 1)))) (eV 9) [8, 9]))))) sNil))
    (sFrz 5 (sRet (eJoin (eC (.str "; ")) (eV 5)))))))))
end Fb
namespace Mm
open PySem L2
def eKV (mk mv : ME) : ME := fun env S => (mk env S).bind fun k S1 => match keyD k with
  | some _ => (mv env S1).bind fun v S2 => .ok (.tup [k, v]) S2
  | none => .stuck
def kvsOf : List D → List (Key × D) → Option (List (Key × D))
  | [], acc => some acc
  | .tup [k, v] :: ds, acc => (match keyD k with
    | some kk => kvsOf ds (putD acc kk v)
    | none => none)
  | _ :: _, _ => none
theorem putD_le (ks : List (Key × D)) (k : Key) (d : D) : ks.length ≤ (putD ks k d).length := by
  unfold putD
  split
  · rw [List.length_map]
    exact Nat.le_refl _
  · simp
theorem kvsOf_le : ∀ {ds : List D} {acc ks : List (Key × D)}, kvsOf ds acc = some ks → acc.length ≤ ks.length
  | [], acc, ks, h => by
    unfold kvsOf at h
    cases h
    exact Nat.le_refl _
  | d :: ds, acc, ks, h => by
    cases d with
    | tup xs =>
      match xs, h with
      | [k, v], h =>
        unfold kvsOf at h
        cases z : keyD k with
        | none => rw [z] at h; cases h
        | some kk =>
          rw [z] at h
          exact Nat.le_trans (putD_le acc kk v) (kvsOf_le h)
      | [], h => unfold kvsOf at h; cases h
      | [_], h => unfold kvsOf at h; cases h
      | _ :: _ :: _ :: _, h => unfold kvsOf at h; cases h
    | _ => unfold kvsOf at h; cases h
def finDc (acc : List (Key × D)) (ys : List D) (S : Sto) : R D := match kvsOf ys acc with
  | some ks => if decide (ks.length ≤ 1000) then .ok (.dic ks) S else .stuck
  | none => .stuck
def eDc (mi : MI) (g : MG) (tt : MT) (mk mv : ME) (vs : List Nat) : ME := fun env S => (mi env S).bind fun ds S1 => (lcR g tt (eKV mk mv) (wipeE env vs) ds S1).bind (finDc [])
section
variable {X : Cx} {Y : Gam} {W : WX} {e a b c tg iter elt kx vx : Expr} {es rest ifs : List Expr} {ta tb te tk tv : TE} {tt tu : TT} {ma mb me mk mv : ME} {mt mu : MT} {mf : MF} {t : TA} {m : MA} {pos : Pos} {wi : TI} {mi : MI} {scope : Scope} {own : List (Str × Nat)} {is : List Nat} {g : TG} {mg : MG}
theorem ok_updK {g : Gam} {w : Wd} {H : Hp} {S : Sto} {p : Addr} {vs : List (Key × V)} {o : HO} (k : Ok g w H S) (e : H p = some (.dK vs)) (hg : w.G p = none) (hr : p ∉ w.rho) : Ok g w (upd H p o) S := by
  refine ⟨fun b u q => ?_, ⟨k.cells.nd, k.cells.len, fun m b q e9 e10 => ?_⟩, tabs_upd k.tabs (fun ps z => by rw [e] at z; cases z) (fun φ _ z => by rw [e] at z; cases z), k.notab⟩
  · rw [upd_ne (fun z => by rw [z, hg] at q; cases q)]
    exact k.ex b u q
  · obtain ⟨q1, q2⟩ := k.cells.at_ m b q e9 e10
    exact ⟨q1, q2.move (.refl w) (upd_ne fun z => hr (by rw [← z]; exact List.mem_of_getElem? e9))⟩
theorem sim_dc {g : Gam} {is vs : List Nat} {tg : TG} {mg : MG} (hi : SimI g W wi mi) (hg : SimG g is tg mg) (hv : ∀ i ∈ is, i ∈ vs) (ht : SimT g W0 tt mt) (hk : SimE g W0 tk mk) (he : SimE g W0 tv mv) : SimE g W (tDc wi tg tt tk tv vs) (eDc mi mg mt mk mv vs) := fun w0 H0 w H σ env S O Q st p => by
  unfold eDc at p
  generalize hme : eKV mk mv = me' at p
  refine hi w0 H0 w H σ env S O _ st ((PostX.bind p).imp fun ds S1 w1 H1 st1 l1 p1 J hJ Z hD => ?_)
  obtain ⟨o1, o2, o3, o4⟩ := st1.out hD
  refine ⟨fun i m H => m + i = ds.length ∧ ∃ w' S' acc us, Frame w1 H1 w' H ∧ Ok g w' H S' ∧ H Z = some (.dK us) ∧ RepK g w' acc us ∧ w'.G Z = none ∧ Z ∉ w'.rho ∧
    PostX g W w0 H0 w' σ env O ((lcR mg mt me' (wipeE env vs) (ds.drop i) S').bind (finDc acc)) (fun d _ w' H' => ∀ v, Rep g w' d v → Q v H'), ?_, ?_⟩
  · obtain ⟨k2, f2⟩ := ok_lay (o := .dK []) st1.ok hD nt_dK
    exact ⟨ds.length, by omega, w1, S1, [], [], f2, k2, upd_same, RepK.nil_, o2, o3, p1⟩
  · rintro i k H2 ⟨hk', w2, S2, acc, us, f2, k2, e2, hf, g2, r2, p2⟩
    obtain ⟨hgo, hstop⟩ := hJ w2 H2 f2.le k2.ex
    have st2 : StR g w0 H0 w2 H2 σ env S2 O := st1.after f2 k2
    have stb : StR g w2 H2 w2 H2 (wipe σ vs) (wipeE env vs) S2 (List.replicate σ.length none) := st2.hide vs
    by_cases hlt : i < ds.length
    · have ed : ds.drop i = ds[i] :: ds.drop (i + 1) := List.drop_eq_getElem_cons hlt
      obtain ⟨go, yld⟩ := hgo i ds[i] (List.getElem?_eq_getElem hlt)
      refine .inr ⟨go, fun H => ∃ w' S' acc us, Frame w1 H1 w' H ∧ Ok g w' H S' ∧ H Z = some (.dK us) ∧ RepK g w' acc us ∧ w'.G Z = none ∧ Z ∉ w'.rho ∧
        PostX g W w0 H0 w' σ env O ((lcR mg mt me' (wipeE env vs) (ds.drop (i + 1)) S').bind (finDc acc)) (fun d _ w' H' => ∀ v, Rep g w' d v → Q v H'), fun H' h' => ⟨k - 1, by omega, by omega, h'⟩, fun x H' hy => ?_⟩
      obtain ⟨w3, gr, rx⟩ := yld x H' hy
      have st3 := stb.grow gr
      rw [ed] at p2
      unfold lcR at p2
      cases z : mg ds[i] (wipeE env vs) with
      | none => rw [z] at p2; exact False.elim p2
      | some e1 =>
        simp only [z] at p2
        refine hg w2 H2 w3 H' _ _ S2 _ ds[i] x _ e1 st3 rx z fun σ4 O4 st4 sl4 => ⟨?_, ?_⟩
        · rw [wipe_slots sl4 hv, wipe_wipe]
        · refine ht w2 H2 w3 H' σ4 e1 S2 O4 _ st4 ?_
          cases y : mt e1 S2 with
          | stuck => simp only [y] at p2; exact p2
          | exc c q s => simp only [y] at p2; exact False.elim p2
          | ok bb S5 =>
            intro w5 H5 st5 l5
            have keepD : ∀ {w6 : Wd} {H6 : Hp}, Frame w2 H2 w6 H6 → H6 Z = some (.dK us) ∧ w6.G Z = none ∧ Z ∉ w6.rho := fun {w6 H6} f6 =>
              ⟨f6.keep Z _ e2 r2 nt_dK, (f6.newG Z (by rw [e2]; exact fun z => nomatch z)).trans g2, fun q => by
                rcases f6.rho Z q with z | z
                · exact r2 z
                · rw [e2] at z; cases z⟩
            cases bb with
            | false =>
              simp only [y] at p2
              simp only [Bool.false_eq_true, if_false]
              obtain ⟨q1, q2, q3⟩ := keepD st5.fr
              exact ⟨w5, S5, acc, us, f2.trans st5.fr, st5.ok, q1, hf.mono st5.fr.le, q2, q3, PostX.mono p2 st5.fr.le⟩
            | true =>
              simp only [y] at p2
              simp only [if_true]
              rw [← hme] at p2
              unfold eKV at p2
              refine hk w2 H2 w5 H5 σ4 e1 S5 O4 _ st5 ?_
              cases u : mk e1 S5 with
              | stuck => simp only [u] at p2; exact p2
              | exc c q s => simp only [u] at p2; exact False.elim p2
              | ok kd S6 =>
                simp only [u] at p2
                intro w6 H6 st6 l6 v6 r6
                cases kk : keyD kd with
                | none =>
                  have this : (R.ok kd S6 : R D).bind (fun k S1 => match keyD k with
                      | some _ => (mv e1 S1).bind fun v S2 => R.ok (D.tup [k, v]) S2
                      | none => .stuck) = .stuck := by
                    show (match keyD kd with
                      | some _ => (mv e1 S6).bind fun v S2 => R.ok (D.tup [kd, v]) S2
                      | none => .stuck) = _
                    rw [kk]
                  rw [this] at p2
                  exact False.elim p2
                | some key =>
                  have p2 : PostX g W w0 H0 w2 σ env O ((match (mv e1 S6).bind fun v S2 => R.ok (D.tup [kd, v]) S2 with
                    | .ok y S3 => (lcR mg mt (eKV mk mv) (wipeE env vs) (ds.drop (i + 1)) S3).bind fun ys S4 => R.ok (y :: ys) S4
                    | _ => .stuck).bind (finDc acc)) (fun d _ w' H' => ∀ v, Rep g w' d v → Q v H') := by
                    have : (R.ok kd S6 : R D).bind (fun k S1 => match keyD k with
                      | some _ => (mv e1 S1).bind fun v S2 => R.ok (D.tup [k, v]) S2
                      | none => .stuck) = (mv e1 S6).bind fun v S2 => R.ok (D.tup [kd, v]) S2 := by
                      show (match keyD kd with
                      | some _ => (mv e1 S6).bind fun v S2 => R.ok (D.tup [kd, v]) S2
                      | none => .stuck) = _
                      rw [kk]
                    rw [this] at p2
                    exact p2
                  refine he w2 H2 w6 H6 σ4 e1 S6 O4 _ st6 ?_
                  cases u2 : mv e1 S6 with
                  | stuck => rw [u2] at p2; exact p2
                  | exc c q s => rw [u2] at p2; exact False.elim p2
                  | ok vd S7 =>
                    rw [u2] at p2
                    intro w7 H7 st7 l7 v7 r7
                    obtain ⟨q1, q2, q3⟩ := keepD st7.fr
                    have p3 : PostX g W w0 H0 w2 σ env O (((lcR mg mt (eKV mk mv) (wipeE env vs) (ds.drop (i + 1)) S7).bind fun ys S3 => R.ok (D.tup [kd, vd] :: ys) S3).bind (finDc acc)) (fun d _ w' H' => ∀ v, Rep g w' d v → Q v H') := p2
                    rw [hme] at p3
                    have p4 : PostX g W w0 H0 w2 σ env O ((lcR mg mt me' (wipeE env vs) (ds.drop (i + 1)) S7).bind (finDc (putD acc key vd))) (fun d _ w' H' => ∀ v, Rep g w' d v → Q v H') := by
                      cases q : lcR mg mt me' (wipeE env vs) (ds.drop (i + 1)) S7 with
                      | stuck => rw [q] at p3; exact p3
                      | exc c a s => rw [q] at p3; exact p3
                      | ok ys s =>
                        rw [q] at p3
                        have p3 : PostX g W w0 H0 w2 σ env O (finDc acc (D.tup [kd, vd] :: ys) s) _ := p3
                        show PostX g W w0 H0 w2 σ env O (finDc (putD acc key vd) ys s) _
                        have e : finDc acc (D.tup [kd, vd] :: ys) s = finDc (putD acc key vd) ys s := by
                          unfold finDc
                          rw [kvsOf, kk]
                        rw [← e]
                        exact p3
                    have hsz : acc.length ≤ 1000 := by
                      cases q : lcR mg mt me' (wipeE env vs) (ds.drop (i + 1)) S7 with
                      | stuck => rw [q] at p4; exact False.elim p4
                      | exc c a s => exact absurd q (lcR_noexc _ _ _ _ _)
                      | ok ys s =>
                        rw [q] at p4
                        have p4 : PostX g W w0 H0 w2 σ env O (finDc (putD acc key vd) ys s) _ := p4
                        unfold finDc at p4
                        cases hns : kvsOf ys (putD acc key vd) with
                        | none => rw [hns] at p4; exact False.elim p4
                        | some ks =>
                          rw [hns] at p4
                          simp only at p4
                          split at p4
                          · rename_i hz
                            exact Nat.le_trans (putD_le acc key vd) (Nat.le_trans (kvsOf_le hns) (of_decide_eq_true hz))
                          · exact False.elim p4
                    have hf7 := hf.mono st7.fr.le
                    refine ⟨us, key, rep_key r6 kk, q1, by rw [← hf7.len]; exact Nat.lt_of_le_of_lt hsz (by decide), ?_⟩
                    have f7 := (f2.trans st7.fr).upd_new (o := .dK (putK us key v7)) hD
                    have k7 := ok_updK (o := .dK (putK us key v7)) st7.ok q1 q2 q3
                    exact ⟨w7, S7, putD acc key vd, putK us key v7, f7, k7, upd_same, hf7.put_ r7, q2, q3, PostX.mono p4 st7.fr.le⟩
    · have ei : i = ds.length := by omega
      refine .inl ⟨by rw [ei]; exact hstop, ?_⟩
      have ed : ds.drop i = [] := by rw [ei]; exact List.drop_length
      rw [ed] at p2
      have p2 : PostX g W w0 H0 w2 σ env O (finDc acc [] S2) _ := p2
      unfold finDc kvsOf at p2
      simp only [] at p2
      split at p2
      · obtain ⟨st3, l3⟩ := any_freeze st2 e2 nt_dK o1 g2 r2 o4
        refine p2 _ H2 st3 l3 (.ref Z) ?_
        unfold Rep
        exact ⟨Z, us, rfl, .inl upd_same, hf.mono l3⟩
      · exact False.elim p2
theorem ps_setDc {i : Nat} {y : Str} {py : Pos} {spos : Pos} (hc : X.calm = true) (hN : X.N.Nodup) (hy : X.N[i]? = some y) (hyl : X.env.scope.names.lookup y = some .local)
    (hsw : swapsWith (.DictComp kx vx [⟨tg, iter, ifs, 0⟩] scope pos) (some (.Name y py)) spos.line X.env = pure true) (hi : PI X tg iter wi) (ok : BlkOk X.N X.env.scope scope own)
    (hg : ∀ (s : Shared) (H : Hp) (C : Addr) (cl : List (Str × Addr)) (fp : List Addr), PG (X.blk s H scope (compEnvC scope cl C X.env) fp) tg g) (ht : ∀ (s : Shared) (H : Hp) (C : Addr) (cl : List (Str × Addr)) (fp : List Addr), PTs (X.blk s H scope (compEnvC scope cl C X.env) fp) ifs tt)
    (hk : ∀ (s : Shared) (H : Hp) (C : Addr) (cl : List (Str × Addr)) (fp : List Addr), PE (X.blk s H scope (compEnvC scope cl C X.env) fp) kx tk)
    (he : ∀ (s : Shared) (H : Hp) (C : Addr) (cl : List (Str × Addr)) (fp : List Addr), PE (X.blk s H scope (compEnvC scope cl C X.env) fp) vx tv) (hs : ∀ x, foldedSetIterable iter X.env x = pure x := by intro _; rfl) :
    PS X (.Assign [.Name y py] (.DictComp kx vx [⟨tg, iter, ifs, 0⟩] scope pos) spos) (tAsg (tDc wi g tt tk tv (own.map (·.2))) (gName i)) := by
  refine ⟨fun pins s σ H D I h => ?_⟩
  rw [exec_Assign_Name_used _ _ _ _ hsw]
  refine wpAny_bind (wpAny_standAt (wpAny_bind ?_))
  show wpAny _ X.A (do let _ ← comprehension (.DictComp kx vx [⟨tg, iter, ifs, 0⟩] scope pos) scope X.env (firstIterPos [⟨tg, iter, ifs, 0⟩] pos) newDict false (eval iter X.env) (some (assign (.Name y py) X.env))) _ _ s
  have h : tDc wi g tt tk tv (own.map (·.2)) σ H (fun x H1 => gName i x σ H1 D.nx) := h
  refine wpAny_bind (thn (dc_core (Qf := fun _ s' => SP X pins D .next s') hc hN I hi ok hg ht hk he hs h fun L C s' m H' I' q hn f => ?_) fun _ s' hq => wpAny_pure (wpAny_pure hq))
  show wpAny _ _ (assign (.Name y py) X.env (.ref L)) _ _ _
  refine wpAny_assign_Name (store_ok2 (v := V.ref L) I' hN hy (.inl hyl) rfl (fun s2 I2 ⟨a, sb, ha⟩ => ?_) (.inr hyl))
  obtain ⟨f0, f1, f2, f3, f4, f5⟩ := f
  have haC : C ≠ a := by
    rcases ha with z | z
    · rw [z]; exact f1
    · exact fun e => f4 y a z e.symm
  refine ⟨m, hn.sameBut sb haC, fun h3 sb3 => ?_⟩
  exact ⟨_, H', I2.turned (t' := s2.toks) (fun b o hb e => (sb3.2 b hb).trans e) f0 f1 f3 f4 f5, q⟩
theorem sw_trueD {gs : List Comprehension} {scope : Scope} {pos py : Pos} {y : Str} {l : Nat} {env : Env} (hk : env.scope.kind = .function) (hy : env.scope.names.lookup y = some .local) (hl : (py.line == pos.line) = true)
    (ha : (scope.names.any fun (n, k) => n == y && (k == .local || k == .cell)) = false) : swapsWith (.DictComp kx vx gs scope pos) (some (.Name y py)) l env = pure true := by
  have ky : env.kindOf y = some .local := hy
  have hb : env.blockKind = .function := by unfold Env.blockKind; rw [hk]; rfl
  unfold swapsWith
  simp only [hb, ky, ha, Expr.pos, hl]
  rfl
theorem t_setDc {i : Nat} {y : Str} {py spos : Pos} (hN : X.N.Nodup) (hy : X.N[i]? = some y) (hyl : X.env.scope.names.lookup y = some .local) (hsw : swapsWith (.DictComp kx vx [⟨tg, iter, ifs, 0⟩] scope pos) (some (.Name y py)) spos.line X.env = pure true)
    (hi : SI X Y W tg iter wi mi) (ok : BlkOk X.N X.env.scope scope own) (hg : ∀ (s : Shared) (H : Hp) (C : Addr) (cl : List (Str × Addr)) (fp : List Addr), SG (X.blk s H scope (compEnvC scope cl C X.env) fp) Y is tg g mg)
    (ht : ∀ (s : Shared) (H : Hp) (C : Addr) (cl : List (Str × Addr)) (fp : List Addr), ST (X.blk s H scope (compEnvC scope cl C X.env) fp) Y W0 ifs tt mt)
    (hk : ∀ (s : Shared) (H : Hp) (C : Addr) (cl : List (Str × Addr)) (fp : List Addr), SE (X.blk s H scope (compEnvC scope cl C X.env) fp) Y W0 kx tk mk)
    (he : ∀ (s : Shared) (H : Hp) (C : Addr) (cl : List (Str × Addr)) (fp : List Addr), SE (X.blk s H scope (compEnvC scope cl C X.env) fp) Y W0 vx tv mv) (hv : ∀ i ∈ is, i ∈ own.map (·.2) := by decide) (hc : X.calm = true := by rfl) (hs : ∀ x, foldedSetIterable iter X.env x = pure x := by intro _; rfl) :
    SS X Y W (.Assign [.Name y py] (.DictComp kx vx [⟨tg, iter, ifs, 0⟩] scope pos) spos) (tAsg (tDc wi g tt tk tv (own.map (·.2))) (gName i)) (sAsg (eDc mi mg mt mk mv (own.map (·.2))) (gN i)) :=
  ⟨ps_setDc hc hN hy hyl hsw hi.pi ok (fun s H C cl fp => (hg s H C cl fp).pg) (fun s H C cl fp => (ht s H C cl fp).pts) (fun s H C cl fp => (hk s H C cl fp).pe) (fun s H C cl fp => (he s H C cl fp).pe) hs, sim_asg (is := [i]) (sim_dc hi.sim (hg X.s_0 X.H_0 0 [] []).sim hv (ht X.s_0 X.H_0 0 [] []).sim (hk X.s_0 X.H_0 0 [] []).sim (he X.s_0 X.H_0 0 [] []).sim) fun w0 H0 w H σ env S O d v Q e st r h q => by
    cases h
    exact q _ _ (st.set_v i r) (Slots.set σ (by simp))⟩
end
@[simp] theorem eDc_eq (mi : MI) (g : MG) (tt : MT) (mk mv : ME) (vs : List Nat) (env : Envr) (S : Sto) : eDc mi g tt mk mv vs env S = (mi env S).bind fun ds S1 => (lcR g tt (eKV mk mv) (wipeE env vs) ds S1).bind (finDc []) := rfl
@[simp] theorem eKV_eq (mk mv : ME) (env : Envr) (S : Sto) : eKV mk mv env S = (mk env S).bind fun k S1 => match keyD k with
  | some _ => (mv env S1).bind fun v S2 => .ok (.tup [k, v]) S2
  | none => .stuck := rfl
end Mm
namespace Mm
open PySem PySem.Spec PyProof.Rows L2
section
variable {X : Cx} {Y : Gam} {W : WX} {e a b o : Expr} {ta tb te to tk : TE} {ma mb me mo mk : ME} {pos apos tpos : Pos} {c f : Str}
def eAlnum (mo : ME) : ME := fun env S => (mo env S).bind fun d S1 => match d with
  | .str x => .ok (.bl (Txt.isalnum x)) S1
  | _ => .stuck
theorem s_alnum (h : SE X Y W o to mo) (hbase : attributeBase o "isalnum" X.env (eval o X.env) = eval o X.env := by rfl) (hline : (apos.endLine == pos.line) = true := by rfl) :
    SE X Y W (.Call (.Attribute o "isalnum" apos) [] [] pos) (tM0 (fun x xs H Q => ∃ a, x = .str a ∧ xs = [] ∧ True ∧ Q (.bl (Txt.isalnum a)) H) to) (eAlnum mo) :=
  ⟨pe_m0 PySem.F.slot_str_isalnum PySem.F.type_str_isalnum mt_isalnum h.pe hbase hline, fun w0 H0 w H σ env S O Q st p =>
  h.sim w0 H0 w H σ env S O _ st ((PostX.bind p).imp fun d S1 w1 H1 st1 l1 p1 v r => by
    cases d with
    | str x => exact ⟨⟨x, rep_str r⟩, x, rep_str r, rfl, trivial, p1 w1 H1 st1 (.refl w1) _ rep_bl'⟩
    | _ => exact False.elim p1)⟩
def fIxS : Sto → D → D → Option D
  | _, .str z, .int i => if szB z.length then (atI z.cps.toList i).map fun c => .str ⟨#[c]⟩ else none
  | _, _, _ => none
theorem od_ixS {g : Gam} : OpD g rIxS fIxS := fun w H S d1 d2 v1 v2 d Q k r1 r2 e q => by
  unfold fIxS at e
  split at e
  · rename_i z i
    split at e
    · rename_i hz
      cases y : atI z.cps.toList i with
      | none => rw [y] at e; cases e
      | some c =>
        rw [y] at e
        cases e
        exact ⟨z, i, c, rep_str r1, rep_int r2, szB_le hz, y, q w H _ .refl rep_str'⟩
    · cases e
  · cases e
def eSlS (me : ME) (ml mh : MO) : ME := fun env S => (me env S).bind fun d S1 => (ml env S1).bind fun lo S2 => (mh env S2).bind fun hi S3 => match d with
  | .str z => if szB z.length then .ok (.str (Txt.slice z lo hi)) S3 else .stuck
  | _ => .stuck
theorem s_slS {lo hi : Option Expr} {tl th : TO} {ml mh : MO} {p2 : Pos} (he : SE X Y W e te me) (hl : SO X Y W lo tl ml) (hh : SO X Y W hi th mh) : SE X Y W (.Subscript e (.Slice lo hi none p2) pos) (tSl C8.rSlX te tl th) (eSlS me ml mh) := ⟨pe_slice C8.sl_txt he.pe hl.po hh.po, fun w0 H0 w H σ env S O Q st p =>
  he.sim w0 H0 w H σ env S O _ st ((PostX.bind p).imp fun d S1 w1 H1 st1 l1 p1 v r => hl.sim w0 H0 w1 H1 σ env S1 O _ st1 ((PostX.bind p1).imp fun lo S2 w2 H2 st2 l2 p2 => hh.sim w0 H0 w2 H2 σ env S2 O _ st2 ((PostX.bind p2).imp fun hi S3 w3 H3 st3 l3 p3 => by
    cases d with
    | str z =>
      have p3 : PostX Y W w0 H0 w3 σ env O (if szB z.length then R.ok (D.str (Txt.slice z lo hi)) S3 else .stuck) _ := p3
      split at p3
      · rename_i hz
        exact ⟨z, rep_str r, szB_le hz, p3 w3 H3 st3 (.refl w3) _ rep_str'⟩
      · exact False.elim p3
    | _ => exact False.elim p3)))⟩
def sAugF (c f : Str) (h : Int → Int → Int) (mo me : ME) : MS := fun env S => (mo env S).out env fun d S1 => match d with
  | .ref n => (match S1[n]? with
    | some (.ins c' fs) => if c' = c ∧ fs.length < 1000 then (match fs.lookup f with
      | some (.int i) => (me env S1).out env fun y S2 => (match y with
        | .int j => (match S2[n]? with
          | some (.ins c2 fs2) => if c2 = c ∧ fs2.length < 1000 then .nx env (S2.set n (.ins c (putFD f (.int (h i j)) fs2))) else .stuck
          | _ => .stuck)
        | _ => .stuck)
      | _ => .stuck) else .stuck
    | _ => .stuck)
  | _ => .stuck
theorem t_augF {op : Operator} {h : Int → Int → Int} (hop : InOp X op (fun x y H Q => ∃ i j, x = .int i ∧ y = .int j ∧ Q (.int (h i j)) H)) (hC : Cls X.K (Y.ca c)) (hn : NoAttr X.K (Y.ca c) f) (ho : SE X Y W o ta ma) (he : SE X Y W e te me) (hK : X.K = Y.K := by rfl) :
    SS X Y W (.AugAssign (.Attribute o f tpos) op e pos) (sFldAug Y.K ta te (fun x y H Q => ∃ i j, x = .int i ∧ y = .int j ∧ Q (.int (h i j)) H) f) (sAugF c f h ma me) := ⟨hK ▸ ps_fldaug ho.pe he.pe hop, fun w0 H0 w H σ env S O Dn st p =>
  ho.sim w0 H0 w H σ env S O _ st ((PostS.out p).imp fun d S1 w1 H1 st1 l1 p1 v r => by
    cases d with
    | ref n =>
      simp only at p1
      cases hS : S1[n]? with
      | none => rw [hS] at p1; exact False.elim p1
      | some cl =>
        cases cl with
        | ins c' fs =>
          rw [hS] at p1
          simp only at p1
          split at p1
          · rename_i hc
            obtain ⟨ec, hl⟩ := hc
            subst ec
            cases lk : fs.lookup f with
            | none => rw [lk] at p1; exact False.elim p1
            | some fd =>
              cases fd with
              | int i =>
                rw [lk] at p1
                simp only at p1
                obtain ⟨a, e1, e2⟩ := rep_ref r
                obtain ⟨_, dx, gs, e3, e4⟩ := st1.ok.cells.at_ n a _ e1 hS
                obtain ⟨u, lu, ru⟩ := (RepF.look e4).1 _ lk
                refine ⟨a, _, dx, gs, u, e2, e3, hK ▸ hC, hK ▸ hn, lu, ?_⟩
                refine he.sim w0 H0 w1 H1 σ env S1 O _ st1 ((PostS.out p1).imp fun y S2 w2 H2 st2 l2 p2 yv ry => ?_)
                cases y with
                | int j =>
                  simp only at p2
                  refine ⟨i, j, rep_int ru, rep_int ry, ?_⟩
                  cases hS2 : S2[n]? with
                  | none => rw [hS2] at p2; exact False.elim p2
                  | some cl2 =>
                    cases cl2 with
                    | ins c2 fs2 =>
                      rw [hS2] at p2
                      simp only at p2
                      split at p2
                      · rename_i hc2
                        obtain ⟨ec2, hl2⟩ := hc2
                        subst ec2
                        have e1' := l2.get e1
                        obtain ⟨_, dx2, gs2, e5, e6⟩ := st2.ok.cells.at_ n a _ e1' hS2
                        refine ⟨dx2, gs2, e5, by rw [← e6.len]; exact hl2, ?_⟩
                        obtain ⟨k3, f3⟩ := ok_cell (c' := .ins c2 (putFD f (.int (h i j)) fs2)) st2.ok e1' hS2 (o := .ins _ dx2 (putF f (.int (h i j)) gs2)) ⟨dx2, _, upd_same, RepF.put rep_int' e6⟩ nt_ins
                        exact p2 w2 _ σ O (st2.after f3 k3) (.refl w2)
                      · exact False.elim p2
                    | _ => rw [hS2] at p2; exact False.elim p2
                | _ => exact False.elim p2
              | _ => rw [lk] at p1; exact False.elim p1
          · exact False.elim p1
        | _ => rw [hS] at p1; exact False.elim p1
    | _ => exact False.elim p1)⟩
theorem call_listR (hc : X.calm = true) : CallR X (.type "list") (fun xs H Q => ∃ (d : Addr) (ks : List (Key × V)), xs = [.ref d] ∧ Rd H d (.dK ks) ∧ ∀ q, H q = none → Q (.ref q) (upd H q (.lst (ks.map fun kv => kV kv.1)))) := by
  intro pins s σ H xs us Q I r h
  obtain ⟨d, ks, e, hk, q⟩ := h
  subst e
  obtain ⟨u, eu, rx⟩ := vals1 r
  subst eu
  obtain rfl : u = Value.ref d := rx
  obtain ⟨z, lo, ws, rk, hd⟩ := (show ObjOk X.prog X.w H s.heap d (.dK ks) from hk.ok I.hok)
  obtain ⟨ep, hat⟩ := hd.dictAt
  have hl : ks.length = ws.length := Paired.length rk
  refine PySem.W.kdl_call (PySem.W.kdl_dict (knd := mixKind X.prog X.w) (kvs := ws) (ep := ep) lo) (I.ok.hd hc) hat (by rw [← hl]; exact z) fun h' tk acc c' hkeep hS hacc => ?_
  have new : ObjOk X.prog X.w (upd H s.heap.objs.size (.lst (ks.map fun kv => kV kv.1))) h' s.heap.objs.size (.lst (ks.map fun kv => kV kv.1)) := by
    refine ⟨by rw [List.length_map]; exact z, acc.toList, c', ?_, by rw [Array.toArray_toList]; exact hS⟩
    refine vals_of_at (by
      have el : acc.toList.length = acc.size := by simp
      rw [List.length_map, el, hacc.1, hl] <;> simp) fun j x w h1 h2 => ?_
    obtain ⟨k, y, hky, hi⟩ := hacc.2 j w (by rw [← Array.getElem?_toList]; exact h2)
    have e1 : (ks.map (·.1))[j]? = some k := by
      rw [KV.keys rk, List.getElem?_map, hky]
      rfl
    have e2 : (ks.map fun kv => kV kv.1)[j]? = some (kV k) := by
      have e3 : (ks.map fun kv => kV kv.1) = (ks.map (·.1)).map kV := by
        rw [List.map_map]
        rfl
      rw [e3, List.getElem?_map, e1]
      rfl
    rw [e2] at h1
    cases h1
    exact keyIs_rel hi
  exact ⟨.ref s.heap.objs.size, _, I.laid hkeep (Nat.le_refl _) new, rfl, q _ (I.hok.fresh (Nat.le_refl _))⟩
def fListD : Sto → List D → Option Cell
  | S, [d] => (dicOf S d).map fun ks => .lst (ks.map fun kv => keyV kv.1)
  | _, _ => none
theorem RepK.keys_ {g : Gam} {w : Wd} : ∀ {ks : List (Key × D)} {vs : List (Key × V)}, RepK g w ks vs → RepL g w (ks.map fun kv => keyV kv.1) (vs.map fun kv => kV kv.1)
  | [], vs, h => by
    unfold RepK at h
    rw [h]
    exact RepL.nil_
  | (k, d) :: ks, vs, h => by
    obtain ⟨v, r, rfl, a, b⟩ := RepK.inv h
    exact RepL.cons_ (rep_keyV k) (RepK.keys_ b)
theorem co_listD {g : Gam} : CallO g (fun xs H Q => ∃ (d : Addr) (ks : List (Key × V)), xs = [.ref d] ∧ Rd H d (.dK ks) ∧ ∀ q, H q = none → Q (.ref q) (upd H q (.lst (ks.map fun kv => kV kv.1)))) fListD := fun w H S ds vs c Q k r e q => by
  unfold fListD at e
  split at e
  · rename_i d'
    obtain ⟨v, e1, e2⟩ := repL_one r
    cases z : dicOf S d' with
    | none => rw [z] at e; cases e
    | some ks =>
      rw [z] at e
      cases e
      obtain ⟨a, us, x1, x2, x3⟩ := dicOf_rep k e2 z
      rw [x1] at e1
      exact ⟨a, us, e1, x2, fun p hp => q p _ hp nt_lst ⟨_, upd_same, x3.keys_⟩⟩
  · cases e
end
end Mm
namespace Fb
open PySem L2 Mm
noncomputable def m_parts_of : MFn := mFn 4 (sSeq (sOwn 1 (fLst aNil))
    (sSeq (sAsg (eC (.int 0)) (gN 2))
    (sSeq (whL (cB (eOp iLt (eV 2) (eCB fLen (aCons (eV 0) aNil)))) (sSeq (sAsg (eOp dAdd (eV 2) (eC (.int 1))) (gN 3))
    (sSeq (sIf (cB (eAlnum (eOp fIxS (eV 0) (eV 2)))) (whL (cAnd (cB (eOp iLt (eV 3) (eCB fLen (aCons (eV 0) aNil)))) (cB (eAlnum (eOp fIxS (eV 0) (eV 3))))) (sAug 3 (fun i j => i + j) (eC (.int 1))) 4000) sNil)
    (sSeq (sIf (cB (eOp fNe (eOp fIxS (eV 0) (eV 2)) (eC (.str " ")))) (sApp 1 (eTup (aCons (eSlS (eV 0) (oSome (eV 2)) (oSome (eV 3))) (aCons (eV 2) aNil)))) sNil)
    (sAsg (eV 3) (gN 2))))) 4000)
    (sRetO 1))))
noncomputable def m_ReaderU_initU : MFn := mFn 2 (sSeq (sFldC "Reader" "found" (eV 0) (eCall m_parts_of [] (aCons (eV 1) aNil)))
    (sSeq (sFldC "Reader" "step" (eV 0) (eC (.int 0)))
    (sFldC "Reader" "end" (eV 0) (eCB fLen (aCons (eV 1) aNil)))))
noncomputable def m_Reader_ahead : MFn := mFn 1 (sRet (eIf (cB (eOp iLt (eFld "Reader" "step" (eV 0)) (eCB fLen (aCons (eFld "Reader" "found" (eV 0)) aNil)))) (eOp fIx (eOp fIx (eFld "Reader" "found" (eV 0)) (eFld "Reader" "step" (eV 0))) (eC (.int 0))) (eC (.str ""))))
noncomputable def m_Reader_wrong : MFn := mFn 1 (sRet (eIf (cB (eOp iLt (eFld "Reader" "step" (eV 0)) (eCB fLen (aCons (eFld "Reader" "found" (eV 0)) aNil)))) (eOp fIx (eOp fIx (eFld "Reader" "found" (eV 0)) (eFld "Reader" "step" (eV 0))) (eC (.int 1))) (eFld "Reader" "end" (eV 0))))
noncomputable def m_Reader_take : MFn := mFn 3 (sSeq (sAsg (eMeth "Reader" "ahead" m_Reader_ahead [] (eV 0) aNil) (gN 2))
    (sSeq (sIf (cB (eOp (fInX true) (eV 2) (eV 1))) (sRaiseF "BadText" (eMeth "Reader" "wrong" m_Reader_wrong [] (eV 0) aNil)) sNil)
    (sSeq (sAugF "Reader" "step" (fun i j => i + j) (eV 0) (eC (.int 1)))
    (sRet (eV 2)))))
noncomputable def m_read_sum : MFn := mFn 4 (sSeq (sAsg (eMeth "Reader" "take" m_Reader_take [] (eV 0) (aCons (eOp dAdd (mFrz (fCB fListD (aCons (eV 1) aNil))) (mFrz (fLst (aCons (eC (.str "0")) aNil)))) aNil)) (gN 2))
    (sSeq (sIf (cB (eOp fEq (eV 2) (eC (.str "0")))) (sRet (eC (.int 0))) sNil)
    (sSeq (sAsg (eDGetA 1 (eV 2)) (gN 3))
    (sSeq (whL (cB (eOp fEq (eMeth "Reader" "ahead" m_Reader_ahead [] (eV 0) aNil) (eC (.str "+")))) (sSeq (sExpr (eMeth "Reader" "take" m_Reader_take [] (eV 0) (aCons (mFrz (fLst (aCons (eC (.str "+")) aNil))) aNil)))
    (sAsg (eOp iXor (eV 3) (eDGetA 1 (eMeth "Reader" "take" m_Reader_take [] (eV 0) (aCons (mFrz (fCB fListD (aCons (eV 1) aNil))) aNil)))) (gN 3))) 4000)
    (sRet (eV 3))))))
noncomputable def m_read_spread : MFn := mFn 12 (sSeq (sExpr (eCall m_need_sides [] (aCons (eV 1) aNil)))
    (sSeq (sAsg (eDc (itES (aCons (eCall m_words_of [] (aCons (eV 1) aNil)) aNil)) (gT (gNC (gN 10) (gNC (gN 9) gN0))) cYes (eV 9) (eOp iShl (eC (.int 1)) (eV 10)) [10, 9]) (gN 4))
    (sSeq (sAsg (eCall m_words_of [] (aCons (mFrz (fLst (aCons (eTup (aCons (eC (.str "box")) (aCons (eV 2) aNil))) (aCons (eTup (aCons (eC (.str "lane")) (aCons (eV 3) aNil))) aNil)))) aNil)) (gN 5))
    (sSeq (sAsg (eNewC "Reader" m_ReaderU_initU [] (aCons (eV 0) aNil)) (gN 6))
    (sSeq (sCell 7 fDic0)
    (sSeq (sAsg (eOp fNe (eMeth "Reader" "ahead" m_Reader_ahead [] (eV 6) aNil) (eC (.str ""))) (gN 8))
    (sSeq (whL (cB (eV 8)) (sSeq (sAsg (eMeth "Reader" "take" m_Reader_take [] (eV 6) (aCons (mFrz (fLc (itL (eV 5)) (gN 11) (cB (eDInA true (eV 11) 7)) (eV 11) [11])) aNil)) (gN 9))
    (sSeq (sExpr (eMeth "Reader" "take" m_Reader_take [] (eV 6) (aCons (mFrz (fLst (aCons (eC (.str "=")) aNil))) aNil)))
    (sSeq (sDPutA 7 (eV 9) (eCall m_read_sum [] (aCons (eV 6) (aCons (eV 4) aNil))))
    (sSeq (sAsg (eOp fNe (eMeth "Reader" "ahead" m_Reader_ahead [] (eV 6) aNil) (eC (.str ""))) (gN 8))
    (sIf (cB (eV 8)) (sExpr (eMeth "Reader" "take" m_Reader_take [] (eV 6) (aCons (mFrz (fLst (aCons (eC (.str ";")) aNil))) aNil))) sNil))))) 4000)
    (sRet (eCB fTupOf (aCons (mFrz (fLc (itL (eV 5)) (gN 9) cYes (eDGet2A 7 (eV 9) (eC (.int 0))) [9])) aNil))))))))))
end Fb
namespace Fb
open PySem L2 Mm Fb Gf
theorem dT_go : ∀ (xs l : List Str), (l ++ xs).Nodup → xs.foldl addT l = l ++ xs
  | [], l, _ => by simp
  | x :: xs, l, h => by
    have nx : ¬ l.any (· == x) = true := fun z => by
      obtain ⟨y, hy, e⟩ := List.any_eq_true.mp z
      have e : y = x := by simpa using e
      subst e
      exact (List.nodup_append.mp h).2.2 y hy y List.mem_cons_self rfl
    have e : addT l x = l ++ [x] := by unfold addT; rw [if_neg nx]
    rw [List.foldl_cons, e]
    have h2 : ((l ++ [x]) ++ xs).Nodup := by simpa using h
    have := dT_go xs (l ++ [x]) h2
    simpa using this
theorem dT_nodup {xs : List Str} (h : xs.Nodup) : dT xs = xs := by
  have := dT_go xs [] (by simpa using h)
  simpa [dT] using this
theorem dT_go_lt : ∀ (xs l : List Str), l.Nodup → ¬ (l ++ xs).Nodup → (xs.foldl addT l).length < l.length + xs.length
  | [], l, h, n => absurd (by simpa using h) n
  | x :: xs, l, h, n => by
    rw [List.foldl_cons, List.length_cons]
    by_cases m : l.any (· == x) = true
    · have e : addT l x = l := by unfold addT; rw [if_pos m]
      rw [e]
      have := dT_go_len xs l
      omega
    · have e : addT l x = l ++ [x] := by unfold addT; rw [if_neg m]
      rw [e]
      have nx : x ∉ l := fun z => m (List.any_eq_true.mpr ⟨x, z, by simp⟩)
      have h2 : (l ++ [x]).Nodup := List.nodup_append.mpr ⟨h, by simp, fun a ha b hb => by
        have : b = x := by simpa using hb
        subst this
        exact fun z => nx (z ▸ ha)⟩
      have := dT_go_lt xs (l ++ [x]) h2 (by simpa using n)
      simp at this
      omega
theorem dT_lt {xs : List Str} (h : ¬ xs.Nodup) : (dT xs).length < xs.length := by
  have := dT_go_lt xs [] (by simp) (by simpa using h)
  simpa [dT] using this
end Fb
namespace Fb
open PySem L2 Mm Gf
structure E4 where
  name : Str
  A : List Nat
  v : Nat
  cs : List Int
end Fb
namespace Fb
open PySem L2 Mm Gf
def hL (k : Nat) (A : List Nat) (cs : List Int) : List Int := (List.range (2 ^ k)).map fun y => cs.getD (app A y) 0
end Fb
namespace Fb
open PySem L2 Mm Gf
structure Mv where
  B : List Nat
  dn : List Nat
  lf : List Nat
abbrev Mp := Str → Option Mv
end Fb
namespace Fb
open PySem L2 Mm Gf
section
variable {S : Sto} {n b l k : Nat} {ts ss : List (Key × D)} {p q : Int} {T : List E4} {f : E4 → D}
def frD (x : Str) (o : Option Str) : Str := o.getD x
def otD (o : Option Str) : D := match o with
  | none => .non
  | some s => .str s
end
end Fb
namespace Fb
open PySem L2 Mm Gf
section
variable {S : Sto} {n m t s x y z : Nat} {T : List E4} {mv : Mp} {U : List E4} {p q : Int}
abbrev S10 (m : Nat) (x : Str) (s2 s3 s4 s5 s6 s7 s8 s9 : Sl) : Envr := [.v (.ref m), .v (.str x), s2, s3, s4, s5, s6, s7, s8, s9]
end
end Fb
namespace Fb
open PySem L2 Mm Gf
inductive Dd where
  | lay (nm : Str) (qs cs : List Int)
  | lead (nm : Str) (qs : List Int)
  | beg (nm : Str) (qs : List Int)
  | turn (nm : Str) (qs : List Int)
  | total (nm : Str) (qs : List Int)
  | stash (nm : Str) (qs : List Int)
  | fetch (nm : Str) (qs : List Int) (o : Option Str)
  | merge (w a c : Str)
  | drop (nm : Str)
  | beat (nm : Str)
  | off (nm : Str)
  | forget (nm : Str)
def sqD (l : Bool) (qs : List Int) : D := if l = true then .lst (qs.map D.int) else .tup (qs.map D.int)
def Dd.w : Dd → Str
  | .lay .. => "lay" | .lead .. => "lead" | .beg .. => "begin" | .turn .. => "turn" | .total .. => "total" | .stash .. => "stash" | .fetch .. => "fetch" | .merge .. => "merge" | .drop _ => "drop" | .beat _ => "beat" | .off _ => "off" | .forget _ => "forget"
def Dd.rest (l : Bool) : Dd → List D
  | .lay nm qs cs => [.str nm, sqD l qs, sqD l cs]
  | .lead nm qs | .beg nm qs | .turn nm qs | .total nm qs | .stash nm qs => [.str nm, sqD l qs]
  | .fetch nm qs o => [.str nm, sqD l qs, otD o]
  | .merge w a c => [.str w, .str a, .str c]
  | .drop nm | .beat nm | .off nm | .forget nm => [.str nm]
def GoodNm (a : Str) : Prop := PyData.strOk a = true ∧ a.cps.size ≤ 100000
def Dd.Ok : Dd → Prop
  | .lay nm qs cs => GoodNm nm ∧ qs.length ≤ 1000 ∧ cs.length ≤ 1000
  | .lead nm qs | .beg nm qs | .turn nm qs | .total nm qs | .stash nm qs => GoodNm nm ∧ qs.length ≤ 1000
  | .fetch nm qs o => GoodNm nm ∧ GoodNm (frD nm o) ∧ qs.length ≤ 1000
  | .merge w a c => GoodNm w ∧ GoodNm a ∧ GoodNm c
  | .drop nm | .beat nm | .off nm | .forget nm => GoodNm nm
end Fb
namespace Fb
open PySem L2 Mm Gf
theorem strsOf_at : ∀ xs : List Str, strsOf (xs.map D.str) = some xs
  | [] => by simp [strsOf]
  | x :: xs => by simp [strsOf, strsOf_at xs]
theorem fInX_strs (S : Sto) (neg : Bool) (y : Str) (xs : List Str) : fInX neg S (.str y) (.lst (xs.map D.str)) = some (.bl (if neg then !decide (y ∈ xs) else decide (y ∈ xs))) := by
  show (strsOf (xs.map D.str)).map _ = _
  rw [strsOf_at]
  rfl
theorem flc_filt {mi : MI} {tt : MT} {te : ME} {k : Nat} {vs : List Nat} {env : Envr} {S : Sto} (P : Str → Bool) (xs : List Str) (h1 : mi env S = .ok (xs.map D.str) S) (hz : xs.length ≤ 1000) (h2 : ∀ y ∈ xs, tt ((wipeE env vs).set k (.v (.str y))) S = .ok (P y) S ∧ te ((wipeE env vs).set k (.v (.str y))) S = .ok (.str y) S) : fLc mi (gN k) tt te vs env S = .ok (.lst ((xs.filter P).map D.str)) S := by
  have go : ∀ xs : List Str, (∀ y ∈ xs, tt ((wipeE env vs).set k (.v (.str y))) S = .ok (P y) S ∧ te ((wipeE env vs).set k (.v (.str y))) S = .ok (.str y) S) → lcR (gN k) tt te (wipeE env vs) (xs.map D.str) S = .ok ((xs.filter P).map D.str) S := fun xs => by
    induction xs with
    | nil => intro _; rfl
    | cons y xs ih =>
      intro h
      have ih := ih fun z hz => h z (List.mem_cons_of_mem _ hz)
      obtain ⟨h1, h2⟩ := h y List.mem_cons_self
      rw [List.map_cons, lcR, gN_eq]
      cases hp : P y with
      | true =>
        rw [hp] at h1
        simp only [h1, h2, ih, bind_ok']
        rw [List.filter_cons_of_pos (by rw [hp])]
        rfl
      | false =>
        rw [hp] at h1
        simp only [h1, ih]
        rw [List.filter_cons_of_neg (by rw [hp]; simp)]
  rw [fLc_eq, h1, bind_ok', go xs h2, bind_ok', fin_eq]
  have l := List.length_filter_le P xs
  have zf := szB_of (n := ((xs.filter P).map D.str).length) (by rw [List.length_map]; omega)
  exact if_pos zf
def Drawn (f : MFn) (as : List D) (R : Sto) (b : Cell) (W : Dd → Prop) : Prop := ∃ b' dd, f as (b :: R) = .ok (.val (.tup (.str dd.w :: dd.rest false))) (b' :: R) ∧ Bx b' ∧ dd.Ok ∧ W dd
end Fb
namespace Fb
open PySem L2 Mm Fb Gf
def dS (p : Str × Nat) : D := .tup [.str p.1, nd p.2]
abbrev nms (l : List (Str × Nat)) : List Str := l.map (·.1)
theorem flcG {β : Type} {mi : MI} {te : ME} {g : MG} {vs : List Nat} {env : Envr} {S : Sto} (ψ φ : β → D) (xs : List β) (h1 : mi env S = .ok (xs.map ψ) S) (hz : xs.length ≤ 100000) (h2 : ∀ y ∈ xs, ∃ e1, g (ψ y) (wipeE env vs) = some e1 ∧ te e1 S = .ok (φ y) S) : fLc mi g cYes te vs env S = .ok (.lst (xs.map φ)) S := by
  have lc := lc_all (g := g) (te := te) (env := wipeE env vs) (S := S) ψ φ xs h2
  rw [fLc_eq, h1, bind_ok', lc, bind_ok', fin_eq, if_pos (szB_of (by simpa using hz))]
def sideB (l : List (Str × Nat)) : Bool := (nms l).all nameB && decide (nms l).Nodup && !decide (("box" : Str) ∈ nms l) && !decide (("lane" : Str) ∈ nms l) && l.all (fun p => decide (p.2 ≤ 12)) && decide ((l.map (·.2)).sum ≤ 12)
theorem strsD_map : ∀ xs : List Str, strsD (xs.map D.str) = some xs
  | [] => rfl
  | x :: xs => by
    show (strsD (xs.map D.str)).map (x :: ·) = _
    rw [strsD_map xs]
    rfl
theorem lenTx_map (S : Sto) {xs : List Str} (h : xs.length ≤ 1000) : lenTx (xs.map D.str) S = .ok (.int (dT xs).length) S := by
  unfold lenTx
  rw [strsD_map]
  exact if_pos h
theorem sum_cast : ∀ l : List Nat, (l.map (fun n : Nat => (n : Int))).sum = ((l.sum : Nat) : Int)
  | [] => rfl
  | x :: l => by simp [sum_cast l]
def dI (p : Str × Int) : D := .tup [.str p.1, .int p.2]
abbrev nmI (l : List (Str × Int)) : List Str := l.map (·.1)
def cnt12 (i : Int) : Bool := decide (0 ≤ i) && decide (i ≤ 12)
def sideI (l : List (Str × Int)) : Bool := (nmI l).all nameB && decide (nmI l).Nodup && !decide (("box" : Str) ∈ nmI l) && !decide (("lane" : Str) ∈ nmI l) && l.all (fun p => cnt12 p.2) && decide ((l.map (·.2)).sum ≤ 12)
theorem need_sidesI (S : Sto) (l : List (Str × Int)) (hz : l.length ≤ 1000) (hs : ∀ p ∈ l, p.1.cps.size ≤ 100000) : m_need_sides [.lst (l.map dI)] S = if sideI l = true then .ok (.val .non) S else .exc "BadSides" none S := by
  have c1 := flcG (mi := itL (eV 0)) (te := eV 2) (g := gT (gNC (gN 2) (gNC (gN 3) gN0))) (vs := [2, 3]) (env := [.v (.lst (l.map dI)), .no, .no, .no]) (S := S) dI (fun p => .str p.1) l (by simp) (by omega) fun y hy => ⟨[.v (.lst (l.map dI)), .no, .v (.str y.1), .v (.int y.2)], rfl, rfl⟩
  have n1 : l.map (fun p => D.str p.1) = (nmI l).map D.str := by simp [nmI, Function.comp_def]
  rw [n1] at c1
  have c2 := flcG (mi := itL (eV 1)) (te := eCall m_is_name [] (aCons (eV 2) aNil)) (g := gN 2) (vs := [2]) (env := [.v (.lst (l.map dI)), .v (.lst ((nmI l).map D.str)), .no, .no]) (S := S) D.str (fun x => .bl (nameB x)) (nmI l) (by simp) (by simp; omega) fun y hy => ⟨[.v (.lst (l.map dI)), .v (.lst ((nmI l).map D.str)), .v (.str y), .no], rfl, by
    obtain ⟨p, hp, rfl⟩ := List.mem_map.mp hy
    have := is_name_ok S p.1 (hs p hp)
    simp [this]⟩
  have c3 := flcG (mi := itL (eV 0)) (te := eOr (eOp iLt (eV 3) (eC (.int 0))) (eOp iGt (eV 3) (eC (.int 12)))) (g := gT (gNC (gN 2) (gNC (gN 3) gN0))) (vs := [2, 3]) (env := [.v (.lst (l.map dI)), .v (.lst ((nmI l).map D.str)), .no, .no]) (S := S) dI (fun p => .bl (!cnt12 p.2)) l (by simp) (by omega) fun y hy => ⟨[.v (.lst (l.map dI)), .v (.lst ((nmI l).map D.str)), .v (.str y.1), .v (.int y.2)], rfl, by
    unfold cnt12
    by_cases h0 : y.2 < 0
    · have : ¬ (0 : Int) ≤ y.2 := by omega
      simp [h0, this]
    · have g0 : (0 : Int) ≤ y.2 := by omega
      by_cases h : y.2 ≤ 12
      · have : ¬ (12 : Int) < y.2 := by omega
        simp [h, this, h0, g0]
      · have : (12 : Int) < y.2 := by omega
        simp [h, this, h0, g0]⟩
  have c4 := flcG (mi := itL (eV 0)) (te := eV 3) (g := gT (gNC (gN 2) (gNC (gN 3) gN0))) (vs := [2, 3]) (env := [.v (.lst (l.map dI)), .v (.lst ((nmI l).map D.str)), .no, .no]) (S := S) dI (fun p => .int p.2) l (by simp) (by omega) fun y hy => ⟨[.v (.lst (l.map dI)), .v (.lst ((nmI l).map D.str)), .v (.str y.1), .v (.int y.2)], rfl, rfl⟩
  have f2 : fAll S [.lst ((nmI l).map fun x => .bl (nameB x))] = some (.bl ((nmI l).all nameB)) := by
    have := fAll_eq S ((nmI l).map nameB)
    rw [List.map_map] at this
    refine Eq.trans this ?_
    simp [List.all_map, Function.comp_def]
  have f3 : fAny S [.lst (l.map fun p => .bl (!cnt12 p.2))] = some (.bl (!l.all fun p => cnt12 p.2)) := by
    have := fAny_eq S (l.map fun p => !cnt12 p.2)
    rw [List.map_map] at this
    refine Eq.trans this ?_
    rw [List.any_map, List.all_eq_not_any_not, Bool.not_not]
    rfl
  have f4 : fSum S [.lst (l.map fun p => .int p.2)] = some (.int (l.map (·.2)).sum) := by
    have := fSum_l S (l.map (·.2)) (by simp; omega)
    rw [List.map_map] at this
    exact this
  have tx := lenTx_map S (xs := nmI l) (by simpa using hz)
  have b1 := fInX_strs S false "box" (nmI l)
  have b2 := fInX_strs S false "lane" (nmI l)
  unfold m_need_sides sideI
  generalize nmI l = N at *
  generalize hA : N.all nameB = A at *
  generalize hB : (l.all fun p => cnt12 p.2) = B at *
  generalize hC : (l.map (·.2)).sum = C at *
  cases A with
  | false => simp [-fLc_eq, -List.map_map, c1, c2, f2]
  | true =>
    by_cases h2 : N.Nodup
    · have q1 : ¬ (((dT N).length : Int) < (N.length : Int)) := by rw [dT_nodup h2]; omega
      by_cases h3 : ("box" : Str) ∈ N
      · simp [-fLc_eq, -List.map_map, c1, c2, f2, tx, q1, b1, h2, h3]
      · by_cases h4 : ("lane" : Str) ∈ N
        · simp [-fLc_eq, -List.map_map, c1, c2, f2, tx, q1, b1, b2, h2, h3, h4]
        · cases B with
          | false => simp [-fLc_eq, -List.map_map, c1, c2, c3, f2, f3, tx, q1, b1, b2, h2, h3, h4]
          | true =>
            by_cases h6 : C ≤ 12
            · have q6 : ¬ (12 : Int) < C := by omega
              simp [-fLc_eq, -List.map_map, c1, c2, c3, c4, f2, f3, f4, tx, q1, b1, b2, h2, h3, h4, h6, q6]
            · have q6 : (12 : Int) < C := by omega
              simp [-fLc_eq, -List.map_map, c1, c2, c3, c4, f2, f3, f4, tx, q1, b1, b2, h2, h3, h4, h6, q6]
    · have q1 : (((dT N).length : Int) < (N.length : Int)) := by
        have := dT_lt h2
        omega
      simp [-fLc_eq, -List.map_map, c1, c2, f2, tx, q1, h2]
theorem dS_dI (l : List (Str × Nat)) : l.map dS = (l.map fun p => (p.1, (p.2 : Int))).map dI := by
  rw [List.map_map]
  rfl
theorem sideI_nat (l : List (Str × Nat)) : sideI (l.map fun p => (p.1, (p.2 : Int))) = sideB l := by
  have e1 : nmI (l.map fun p => (p.1, (p.2 : Int))) = nms l := by simp [nmI, nms, Function.comp_def]
  have e2 : ((l.map fun p => (p.1, (p.2 : Int))).map (·.2)).sum = ((l.map (·.2)).sum : Nat) := by
    rw [List.map_map, ← sum_cast, List.map_map]
    rfl
  have e3 : ((l.map fun p => (p.1, (p.2 : Int))).all fun p => cnt12 p.2) = l.all fun p => decide (p.2 ≤ 12) := by
    rw [List.all_map]
    congr 1
    funext p
    have : decide ((0 : Int) ≤ (p.2 : Int)) = true := decide_eq_true (by omega)
    unfold cnt12
    simp only [Function.comp, this, Bool.true_and]
    exact decide_eq_decide.mpr (by omega)
  unfold sideI sideB
  rw [e1, e2, e3]
  congr 1
  exact decide_eq_decide.mpr (by omega)
theorem need_sides (S : Sto) (l : List (Str × Nat)) (hz : l.length ≤ 1000) (hs : ∀ p ∈ l, p.1.cps.size ≤ 100000) : m_need_sides [.lst (l.map dS)] S = if sideB l = true then .ok (.val .non) S else .exc "BadSides" none S := by
  rw [dS_dI, need_sidesI S _ (by simpa using hz) (fun p hp => by
    obtain ⟨q, hq, rfl⟩ := List.mem_map.mp hp
    exact hs q hq), sideI_nat]
end Fb
namespace Fb
open PySem L2 Mm Fb Gf
def wd (x : Str) (k : Nat) : Str := x ++ Str.ofString (k : Int).repr
def wdsOf (l : List (Str × Nat)) : List Str := l.flatMap fun p => (List.range p.2).map (wd p.1)
def Short (l : List (Str × Nat)) : Prop := ∀ p ∈ l, p.2 ≤ 12 ∧ szB p.1.length = true ∧ ∀ k, k < p.2 → szB (wd p.1 k).length = true
theorem lg12 {k : Nat} (h : k ≤ 12) : (k : Int).natAbs.log2 < 1920 := by
  have := Nat.log2_le_self k
  simp
  omega
theorem words_go (S : Sto) (d : D) : ∀ (l : List (Str × Nat)), Short l → lcR2 (gT (gNC (gN 1) (gNC (gN 2) gN0))) cYes (itR1 (aCons (eV 2) aNil)) (gN 3) cYes (eFs [(eFmt (eV 1)), (eFmt (eV 3))] Str.empty) [3] [.v d, .no, .no, .no] (l.map dS) S = .ok ((wdsOf l).map D.str) S
  | [], _ => rfl
  | p :: l, h => by
    obtain ⟨h1, h2, h3⟩ := h p List.mem_cons_self
    have ih := words_go S d l fun q hq => h q (List.mem_cons_of_mem _ hq)
    have it := itR1_nat (m := aCons (eV 2) aNil) (env := [.v d, .v (.str p.1), .v (nd p.2), .no]) (S := S) (n := p.2) (by simp) (by omega)
    have lc := lc_all (g := gN 3) (te := eFs [(eFmt (eV 1)), (eFmt (eV 3))] Str.empty) (env := [.v d, .v (.str p.1), .v (nd p.2), .no]) (S := S) nd (fun k => .str (wd p.1 k)) (List.range p.2) fun k hk => ⟨[.v d, .v (.str p.1), .v (nd p.2), .v (nd k)], rfl, by
      have hk := List.mem_range.mp hk
      have e : Str.empty ++ p.1 = p.1 := Str.empty_append _
      have e2 : p.1 ++ Str.ofString (k : Int).repr = wd p.1 k := rfl
      have lg := lg12 (k := k) (by omega)
      have lg : k.log2 < 1920 := by simpa using lg
      have s3 := h3 k hk
      simp [h2, e, e2, lg, s3]⟩
    have w : wipeE [.v d, .v (.str p.1), .v (nd p.2), .no] [3] = [.v d, .v (.str p.1), .v (nd p.2), .no] := rfl
    rw [List.map_cons]
    unfold lcR2
    show ((match (itR1 (aCons (eV 2) aNil)) [.v d, .v (.str p.1), .v (nd p.2), .no] S with
        | .ok ds1 S2 => (lcR (gN 3) cYes (eFs [(eFmt (eV 1)), (eFmt (eV 3))] Str.empty) (wipeE [.v d, .v (.str p.1), .v (nd p.2), .no] [3]) ds1 S2).bind fun ys S3 => (lcR2 (gT (gNC (gN 1) (gNC (gN 2) gN0))) cYes (itR1 (aCons (eV 2) aNil)) (gN 3) cYes (eFs [(eFmt (eV 1)), (eFmt (eV 3))] Str.empty) [3] [.v d, .no, .no, .no] (l.map dS) S3).bind fun zs S4 => .ok (ys ++ zs) S4
        | _ => .stuck) : Mm.R (List D)) = _
    rw [it]
    show ((lcR (gN 3) cYes (eFs [(eFmt (eV 1)), (eFmt (eV 3))] Str.empty) (wipeE [.v d, .v (.str p.1), .v (nd p.2), .no] [3]) (nl (List.range p.2)) S).bind _) = _
    rw [w]
    erw [lc]
    rw [bind_ok', ih, bind_ok']
    simp [wdsOf, List.map_append]
theorem words_ok (S : Sto) (l : List (Str × Nat)) (h : Short l) (hz : (wdsOf l).length ≤ 100000) : m_words_of [.lst (l.map dS)] S = .ok (.own (.lst ((wdsOf l).map D.str))) S := by
  have e : ∀ env, env = [Sl.v (.lst (l.map dS)), .no, .no, .no] → fLc2 (itL (eV 0)) (gT (gNC (gN 1) (gNC (gN 2) gN0))) cYes (itR1 (aCons (eV 2) aNil)) (gN 3) cYes (eFs [(eFmt (eV 1)), (eFmt (eV 3))] Str.empty) [1, 2, 3] [3] env S = .ok (.lst ((wdsOf l).map D.str)) S := fun env he => by
    subst he
    unfold fLc2
    have := words_go S (.lst (l.map dS)) l h
    show ((lcR2 (gT (gNC (gN 1) (gNC (gN 2) gN0))) cYes (itR1 (aCons (eV 2) aNil)) (gN 3) cYes (eFs [(eFmt (eV 1)), (eFmt (eV 3))] Str.empty) [3] [.v (.lst (l.map dS)), .no, .no, .no] (l.map dS) S).bind fin) = _
    rw [this, bind_ok', fin_eq, if_pos (szB_of (by simpa using hz))]
  unfold m_words_of
  rw [mFn_eq, sRetF_eq]
  have st : startE 4 [D.lst (l.map dS)] = [.v (.lst (l.map dS)), .no, .no, .no] := rfl
  rw [st, e _ rfl]
  rfl
end Fb
namespace Fb
open PySem L2 Mm Fb Gf
theorem len_app (x y : Str) : (x ++ y).length = x.length + y.length := by
  show (x.cps ++ y.cps).size = x.cps.size + y.cps.size
  exact Array.size_append
end Fb
namespace Fb
open PySem L2 Mm Gf
def Tx (n : Nat) (x : Str) : Prop := PyData.strOk x = true ∧ x.length ≤ n
theorem Tx.mono {n m : Nat} {x : Str} (h : Tx n x) (l : n ≤ m) : Tx m x := ⟨h.1, Nat.le_trans h.2 l⟩
theorem Tx.app {n m : Nat} {x y : Str} (h : Tx n x) (k : Tx m y) : Tx (n + m) (x ++ y) := by
  refine ⟨?_, ?_⟩
  · have h1 := h.1
    have k1 := k.1
    unfold PyData.strOk at *
    show (x.cps ++ y.cps).all _ = true
    rw [Array.all_append, h1, k1]
    rfl
  · rw [len_app]
    exact Nat.add_le_add h.2 k.2
theorem Tx.empty {n : Nat} : Tx n Str.empty := ⟨by decide +kernel, Nat.zero_le _⟩
theorem Tx.sjoin {n k : Nat} {sep : Str} (hs : Tx k sep) : ∀ (xs : List Str), (∀ x ∈ xs, Tx n x) → Tx (xs.length * (n + k)) (Str.join sep xs)
  | [], _ => .empty
  | [x], h => by
    refine (h x List.mem_cons_self).mono ?_
    simp
  | x :: y :: xs, h => by
    have ih := Tx.sjoin hs (y :: xs) fun z hz => h z (List.mem_cons_of_mem _ hz)
    have := ((h x List.mem_cons_self).app hs).app ih
    show Tx _ (x ++ sep ++ Str.join sep (y :: xs))
    refine this.mono ?_
    simp only [List.length_cons]
    rw [Nat.add_mul (xs.length + 1) 1]
    omega
theorem Tx.join {n k : Nat} {sep : Str} (hs : Tx k sep) {xs : List Str} (h : ∀ x ∈ xs, Tx n x) : Tx (xs.length * (n + k)) (Txt.join sep xs) := by
  have e : Txt.join sep xs = Str.join sep xs := StrLaws.glued_eq_join sep xs
  rw [e]
  exact Tx.sjoin hs xs h
theorem Tx.name {x : Str} (h : nameB x = true) : Tx 6 x := by
  unfold nameB at h
  simp only [Bool.and_eq_true, decide_eq_true_eq, List.all_eq_true] at h
  obtain ⟨⟨h1, h2⟩, h3⟩ := h
  refine ⟨?_, h2⟩
  unfold PyData.strOk
  rw [← Array.all_toList, List.all_eq_true]
  intro c hc
  have := h3 c hc
  have sm : ∀ c ∈ small.cps.toList, c < 0x110000 := by decide +kernel
  exact decide_eq_true (sm c this)
theorem tx_num : ∀ k : Nat, k < 13 → Tx 2 (Str.ofString (k : Int).repr) := by
  intro k hk
  have : ∀ k : Fin 13, PyData.strOk (Str.ofString ((k.val : Nat) : Int).repr) = true ∧ (Str.ofString ((k.val : Nat) : Int).repr).length ≤ 2 := by decide +kernel
  exact this ⟨k, hk⟩
theorem Tx.wd {x : Str} (h : Tx 6 x) {k : Nat} (hk : k < 13) : Tx 8 (wd x k) := h.app (tx_num k hk)
theorem Tx.sz {n : Nat} {x : Str} (h : Tx n x) (hn : n ≤ 100000) : szB x.length = true := szB_of (Nat.le_trans h.2 hn)
theorem sides_short {l : List (Str × Nat)} (h : ∀ p ∈ l, Tx 6 p.1 ∧ p.2 ≤ 12) : Short l := fun p hp => by
  obtain ⟨a, b⟩ := h p hp
  exact ⟨b, a.sz (by omega), fun k hk => (a.wd (by omega)).sz (by omega)⟩
theorem wds_tx {l : List (Str × Nat)} (h : ∀ p ∈ l, Tx 6 p.1 ∧ p.2 ≤ 12) : ∀ x ∈ wdsOf l, Tx 8 x := fun x hx => by
  unfold wdsOf at hx
  obtain ⟨p, hp, hq⟩ := List.mem_flatMap.mp hx
  obtain ⟨k, hk, rfl⟩ := List.mem_map.mp hq
  obtain ⟨a, b⟩ := h p hp
  exact a.wd (by have := List.mem_range.mp hk; omega)
theorem wds_len (l : List (Str × Nat)) : (wdsOf l).length = (l.map (·.2)).sum := by
  induction l with
  | nil => rfl
  | cons p l ih =>
    have : wdsOf (p :: l) = (List.range p.2).map (wd p.1) ++ wdsOf l := by simp [wdsOf]
    rw [this]
    simp [ih]
theorem sideB_ok {l : List (Str × Nat)} (h : sideB l = true) : (∀ p ∈ l, nameB p.1 = true ∧ p.2 ≤ 12) ∧ (nms l).Nodup ∧ (l.map (·.2)).sum ≤ 12 := by
  unfold sideB at h
  simp only [Bool.and_eq_true, decide_eq_true_eq, List.all_eq_true, Bool.not_eq_true', decide_eq_false_iff_not] at h
  obtain ⟨⟨⟨⟨⟨h1, h2⟩, h3⟩, h4⟩, h5⟩, h6⟩ := h
  exact ⟨fun p hp => ⟨h1 p.1 (List.mem_map.mpr ⟨p, hp, rfl⟩), h5 p hp⟩, h2, h6⟩
theorem enum_zip {α : Type} (φ : α → D) : ∀ (xs : List α) (k : Nat), enumD k (xs.map φ) = (xs.zipIdx k).map fun p => .tup [nd p.2, φ p.1]
  | [], _ => rfl
  | x :: xs, k => by
    show D.tup [.int (k : Int), φ x] :: enumD (k + 1) (xs.map φ) = _
    rw [enum_zip φ xs (k + 1)]
    rfl
theorem flcP {β : Type} {mi : MI} {tt : MT} {te : ME} {g : MG} {vs : List Nat} {env : Envr} {S : Sto} (ψ φ : β → D) (p : β → Bool) (xs : List β) (h1 : mi env S = .ok (xs.map ψ) S) (hz : xs.length ≤ 100000) (h2 : ∀ y ∈ xs, ∃ e1, g (ψ y) (wipeE env vs) = some e1 ∧ tt e1 S = .ok (p y) S ∧ (p y = true → te e1 S = .ok (φ y) S)) : fLc mi g tt te vs env S = .ok (.lst ((xs.filter p).map φ)) S := by
  have lc : ∀ (xs : List β), (∀ y ∈ xs, ∃ e1, g (ψ y) (wipeE env vs) = some e1 ∧ tt e1 S = .ok (p y) S ∧ (p y = true → te e1 S = .ok (φ y) S)) → lcR g tt te (wipeE env vs) (xs.map ψ) S = .ok ((xs.filter p).map φ) S := by
    intro xs
    induction xs with
    | nil => intro _; rfl
    | cons x xs ih =>
      intro h
      obtain ⟨e1, q1, q2, q3⟩ := h x List.mem_cons_self
      have ih := ih fun y hy => h y (List.mem_cons_of_mem _ hy)
      rw [List.map_cons]
      unfold lcR
      rw [q1]
      cases z : p x with
      | true => simp only [q2, z, q3 z, ih, bind_ok', List.filter_cons, if_true, List.map_cons]
      | false => simp [q2, z, ih, List.filter_cons]
  have l := List.length_filter_le p xs
  rw [fLc_eq, h1, bind_ok', lc xs h2, bind_ok', fin_eq, if_pos (szB_of (by simp; omega))]
def selW (ws : List Str) (r : Nat) : List Str := (ws.zipIdx.filter fun p => r.testBit p.2).map (·.1)
theorem sel_mem {ws : List Str} {r : Nat} {x : Str} (h : x ∈ selW ws r) : x ∈ ws := by
  unfold selW at h
  obtain ⟨p, hp, rfl⟩ := List.mem_map.mp h
  have := (List.mem_filter.mp hp).1
  exact (List.mem_zipIdx' this).2 ▸ List.getElem_mem _
theorem sel_len (ws : List Str) (r : Nat) : (selW ws r).length ≤ ws.length := by
  unfold selW
  rw [List.length_map]
  refine Nat.le_trans (List.length_filter_le _ _) ?_
  rw [List.length_zipIdx]
  exact Nat.le_refl _
def itm (w : Str) (ws : List Str) (r : Nat) : Str := w ++ " = " ++ Txt.join " + " (selW ws r)
theorem tx3 : Tx 3 " = " := ⟨by decide +kernel, by decide +kernel⟩
theorem txp : Tx 3 " + " := ⟨by decide +kernel, by decide +kernel⟩
theorem txs : Tx 2 "; " := ⟨by decide +kernel, by decide +kernel⟩
theorem itm_tx {w : Str} {ws : List Str} {r : Nat} (hw : Tx 8 w) (h : ∀ x ∈ ws, Tx 8 x) (hl : ws.length ≤ 12) : Tx 143 (itm w ws r) := by
  have j := Tx.join txp (n := 8) (xs := selW ws r) fun x hx => h x (sel_mem hx)
  refine ((hw.app tx3).app j).mono ?_
  have := sel_len ws r
  have : (selW ws r).length * (8 + 3) ≤ 12 * 11 := Nat.mul_le_mul (by omega) (by omega)
  omega
def parts (bw ws : List Str) (rs : List Nat) : List Str := (bw.zip rs).filterMap fun p => if p.2 = 0 then none else some (itm p.1 ws p.2)
def txtOf (bw ws : List Str) (rs : List Nat) : Str := Txt.join "; " (parts bw ws rs)
theorem parts_len (bw ws : List Str) (rs : List Nat) : (parts bw ws rs).length ≤ bw.length := by
  unfold parts
  refine Nat.le_trans (List.length_filterMap_le _ _) ?_
  rw [List.length_zip]
  omega
theorem parts_tx {bw ws : List Str} {rs : List Nat} (hb : ∀ x ∈ bw, Tx 8 x) (h : ∀ x ∈ ws, Tx 8 x) (hl : ws.length ≤ 12) : ∀ x ∈ parts bw ws rs, Tx 143 x := fun x hx => by
  unfold parts at hx
  obtain ⟨p, hp, hq⟩ := List.mem_filterMap.mp hx
  split at hq
  · cases hq
  · cases hq
    exact itm_tx (hb _ (List.of_mem_zip hp).1) h hl
theorem txtOf_tx {bw ws : List Str} {rs : List Nat} (hb : ∀ x ∈ bw, Tx 8 x) (hbl : bw.length ≤ 20) (h : ∀ x ∈ ws, Tx 8 x) (hl : ws.length ≤ 12) : Tx 2900 (txtOf bw ws rs) := by
  refine (Tx.join txs (parts_tx (rs := rs) hb h hl)).mono ?_
  have := parts_len bw ws rs
  have : (parts bw ws rs).length * (143 + 2) ≤ 20 * 145 := Nat.mul_le_mul (by omega) (by omega)
  omega
theorem join_ok {me : ME} {env : Envr} {S : Sto} {sep : Str} {xs : List Str} {n k : Nat} (h : me env S = .ok (.lst (xs.map D.str)) S) (hs : Tx k sep) (hx : ∀ x ∈ xs, Tx n x) (hz : xs.length * (n + k) ≤ 16777216) : eJoin (eC (.str sep)) me env S = .ok (.str (Txt.join sep xs)) S := by
  have e : joinB sep xs = true := by
    unfold joinB
    rw [Nat.ble_eq]
    have s1 : ∀ ys : List Str, (∀ y ∈ ys, Tx n y) → (ys.map (·.length)).sum ≤ ys.length * n := by
      intro ys
      induction ys with
      | nil => intro _; simp
      | cons y ys ih =>
        intro q
        have := ih fun z hz => q z (List.mem_cons_of_mem _ hz)
        have := (q y List.mem_cons_self).2
        simp only [List.map_cons, List.sum_cons, List.length_cons, Nat.add_mul, Nat.one_mul]
        omega
    have a := s1 xs hx
    have b : xs.length * sep.length ≤ xs.length * k := Nat.mul_le_mul_left _ hs.2
    rw [Nat.mul_add] at hz
    omega
  simp [h, strsOf_at, e]
end Fb
namespace Fb
open PySem L2 Mm Gf
def selF : MF := fLc (itES (aCons (eV 4) aNil)) (gT (gNC (gN 8) (gNC (gN 9) gN0))) (cB (eOp fEq (eOp iAnd (eOp iShr (eV 7) (eV 8)) (eC (.int 1))) (eC (.int 1)))) (eV 9) [8, 9]
def spB : MS := sIf (cB (eOp iGt (eV 7) (eC (.int 0)))) (sApp 5 (eOp fAddS (eOp fAddS (eV 6) (eC (.str " = "))) (eJoin (eC (.str " + ")) (mFrz selF)))) sNil
def spT : MS := sIf (cOr (cB (eOp fNe (eCB fLen (aCons (eV 0) aNil)) (eOp dAdd (eV 2) (eV 3)))) (cB (eCB fAny (aCons (mFrz (fLc (itL (eV 0)) (gN 7) cYes (eOr (eOp iLt (eV 7) (eC (.int 0))) (eOp iGt (eOp iShr (eV 7) (eCB fLen (aCons (eV 4) aNil))) (eC (.int 0)))) [7])) aNil)))) (sRaise "BadRows") sNil
noncomputable def spL : MS := sFor (itZB (aCons (eCall m_words_of [] (aCons (mFrz (fLst (aCons (eTup (aCons (eC (.str "box")) (aCons (eV 2) aNil))) (aCons (eTup (aCons (eC (.str "lane")) (aCons (eV 3) aNil))) aNil)))) aNil)) (aCons (eV 0) aNil))) (gT (gNC (gN 6) (gNC (gN 7) gN0))) spB
theorem spread_eq : m_spread_text = mFn 10 (sSeq (sExpr (eCall m_need_sides [] (aCons (eV 1) aNil)))
    (sSeq (sAsg (eCall m_words_of [] (aCons (eV 1) aNil)) (gN 4))
    (sSeq spT (sSeq (sOwn 5 (fLst aNil)) (sSeq spL (sFrz 5 (sRet (eJoin (eC (.str "; ")) (eV 5))))))))) := rfl
theorem bit_c (r k : Nat) (S : Sto) : fEq S (.int (Builtin.bitAnd ((r : Int) / 2 ^ k) 1)) (.int 1) = some (.bl (r.testBit k)) := by
  rw [fEq_int]
  have e : ((r : Int) / 2 ^ k) = ((r : Int) >>> k) := by rw [Int.shiftRight_eq_div_pow]; simp
  rw [e]
  congr 2
  have := bit_and_one r k
  by_cases h : r.testBit k = true
  · rw [h]; exact decide_eq_true (this.mpr h)
  · rw [Bool.not_eq_true] at h
    rw [h]
    exact decide_eq_false fun z => by rw [this.mp z] at h; cases h
section
variable {rd sd bd ld : D} {S : Sto} {ws : List Str}
abbrev spE (rd sd bd ld : D) (ws acc : List Str) (s6 s7 : Sl) : Envr := [.v rd, .v sd, .v bd, .v ld, .v (.lst (ws.map D.str)), .o (.lst (acc.map D.str)), s6, s7, .no, .no]
theorem sel_ok (hl : ws.length ≤ 1000) (s5 : Sl) (w : Str) (r : Nat) : selF [.v rd, .v sd, .v bd, .v ld, .v (.lst (ws.map D.str)), s5, .v (.str w), .v (nd r), .no, .no] S = .ok (.lst ((selW ws r).map D.str)) S := by
  have it : itES (aCons (eV 4) aNil) [.v rd, .v sd, .v bd, .v ld, .v (.lst (ws.map D.str)), s5, .v (.str w), .v (nd r), .no, .no] S = .ok ((ws.zipIdx).map fun p => .tup [nd p.2, .str p.1]) S := by
    simp [enum_zip]
  have := flcP (te := eV 9) (tt := cB (eOp fEq (eOp iAnd (eOp iShr (eV 7) (eV 8)) (eC (.int 1))) (eC (.int 1)))) (g := gT (gNC (gN 8) (gNC (gN 9) gN0))) (vs := [8, 9]) (fun p : Str × Nat => .tup [nd p.2, .str p.1]) (fun p => .str p.1) (fun p => r.testBit p.2) ws.zipIdx it (by rw [List.length_zipIdx]; omega) fun p hp => ⟨[.v rd, .v sd, .v bd, .v ld, .v (.lst (ws.map D.str)), hideS s5, .v (.str w), .v (nd r), .v (nd p.2), .v (.str p.1)], by simp [wipeE, hideS], by
    have h0 : (0 : Int) ≤ (p.2 : Int) := by omega
    have b := bit_c r p.2 S
    simp only [cB_eq, eOp_eq, eV_eq, List.getElem?_cons_succ, List.getElem?_cons_zero, bind_ok', iShr_eq, h0, decide_true, if_true, opt_some', eC_eq, iAnd_eq, Int.toNat_natCast, b], fun _ => rfl⟩
  unfold selF
  rw [this]
  unfold selW
  rw [List.map_map]
  rfl
theorem sp_go (hl : ws.length ≤ 12) (hws : ∀ x ∈ ws, Tx 8 x) : ∀ (ps : List (Str × Nat)) (acc : List Str) (s6 s7 : Sl), (∀ p ∈ ps, Tx 8 p.1) → acc.length + ps.length ≤ 1000 →
    ∃ s6' s7', forL (gT (gNC (gN 6) (gNC (gN 7) gN0))) spB (ps.map fun p : Str × Nat => .tup [.str p.1, nd p.2]) (spE rd sd bd ld ws acc s6 s7) S = .nx (spE rd sd bd ld ws (acc ++ ps.filterMap fun p => if p.2 = 0 then none else some (itm p.1 ws p.2)) s6' s7') S
  | [], acc, s6, s7, _, _ => ⟨s6, s7, by simp [forL]⟩
  | p :: ps, acc, s6, s7, h, hz => by
    rw [List.length_cons] at hz
    have hp := h p List.mem_cons_self
    have s1 := sel_ok (rd := rd) (sd := sd) (bd := bd) (ld := ld) (S := S) (ws := ws) (by omega) (.o (.lst (acc.map D.str))) p.1 p.2
    have j := join_ok (me := mFrz selF) (env := spE rd sd bd ld ws acc (.v (.str p.1)) (.v (nd p.2))) (S := S) (sep := " + ") (xs := selW ws p.2) (n := 8) (k := 3) (by rw [mFrz_eq, s1]; rfl) txp (fun x hx => hws x (sel_mem hx)) (by
      have := sel_len ws p.2
      have : (selW ws p.2).length * (8 + 3) ≤ 12 * 11 := Nat.mul_le_mul (by omega) (by omega)
      omega)
    have tj : Tx 132 (Txt.join " + " (selW ws p.2)) := (Tx.join txp (n := 8) fun x hx => hws x (sel_mem hx)).mono (by
      have := sel_len ws p.2
      have : (selW ws p.2).length * (8 + 3) ≤ 12 * 11 := Nat.mul_le_mul (by omega) (by omega)
      omega)
    have a1 : fAddS S (.str p.1) (.str " = ") = some (.str (p.1 ++ " = ")) := by
      have := (hp.app tx3).sz (by omega)
      rw [len_app] at this
      exact if_pos this
    have a2 : fAddS S (.str (p.1 ++ " = ")) (.str (Txt.join " + " (selW ws p.2))) = some (.str (itm p.1 ws p.2)) := by
      have := ((hp.app tx3).app tj).sz (by omega)
      rw [len_app] at this
      exact if_pos this
    have sz := szB_of (n := acc.length + 1) (by omega)
    by_cases h0 : p.2 = 0
    · obtain ⟨a, b, ih⟩ := sp_go hl hws ps acc (.v (.str p.1)) (.v (nd p.2)) (fun q hq => h q (List.mem_cons_of_mem _ hq)) (by omega)
      refine ⟨a, b, ?_⟩
      have e : (p :: ps).filterMap (fun p => if p.2 = 0 then none else some (itm p.1 ws p.2)) = ps.filterMap (fun p => if p.2 = 0 then none else some (itm p.1 ws p.2)) := by
        rw [List.filterMap_cons_none]
        rw [if_pos h0]
      have st : spB (spE rd sd bd ld ws acc (.v (.str p.1)) (.v (nd p.2))) S = .nx (spE rd sd bd ld ws acc (.v (.str p.1)) (.v (nd p.2))) S := by
        unfold spB
        simp [h0]
      rw [e, ← ih, List.map_cons]
      show (match spB (spE rd sd bd ld ws acc (.v (.str p.1)) (.v (nd p.2))) S with
        | .nx e S1 => forL (gT (gNC (gN 6) (gNC (gN 7) gN0))) spB (ps.map fun p : Str × Nat => .tup [.str p.1, nd p.2]) e S1
        | .ct e S1 => forL (gT (gNC (gN 6) (gNC (gN 7) gN0))) spB (ps.map fun p : Str × Nat => .tup [.str p.1, nd p.2]) e S1
        | .bk e S1 => .nx e S1
        | o => o) = _
      rw [st]
    · obtain ⟨a, b, ih⟩ := sp_go hl hws ps (acc ++ [itm p.1 ws p.2]) (.v (.str p.1)) (.v (nd p.2)) (fun q hq => h q (List.mem_cons_of_mem _ hq)) (by simp; omega)
      refine ⟨a, b, ?_⟩
      have e : acc ++ (p :: ps).filterMap (fun p => if p.2 = 0 then none else some (itm p.1 ws p.2)) = (acc ++ [itm p.1 ws p.2]) ++ ps.filterMap (fun p => if p.2 = 0 then none else some (itm p.1 ws p.2)) := by
        rw [List.filterMap_cons_some (b := itm p.1 ws p.2)]
        · simp
        · rw [if_neg h0]
      have pos : 0 < p.2 := by omega
      have st : spB (spE rd sd bd ld ws acc (.v (.str p.1)) (.v (nd p.2))) S = .nx (spE rd sd bd ld ws (acc ++ [itm p.1 ws p.2]) (.v (.str p.1)) (.v (nd p.2))) S := by
        unfold spB
        simp [-eJoin_eq, pos, j, a1, a2, sz]
      rw [e, ← ih, List.map_cons]
      show (match spB (spE rd sd bd ld ws acc (.v (.str p.1)) (.v (nd p.2))) S with
        | .nx e S1 => forL (gT (gNC (gN 6) (gNC (gN 7) gN0))) spB (ps.map fun p : Str × Nat => .tup [.str p.1, nd p.2]) e S1
        | .ct e S1 => forL (gT (gNC (gN 6) (gNC (gN 7) gN0))) spB (ps.map fun p : Str × Nat => .tup [.str p.1, nd p.2]) e S1
        | .bk e S1 => .nx e S1
        | o => o) = _
      rw [st]
end
theorem zip_strs : ∀ (xs : List Str) (ys : List Nat), zipD (xs.map D.str) (nl ys) = (xs.zip ys).map fun p => .tup [.str p.1, nd p.2]
  | [], ys => by cases ys <;> rfl
  | _ :: _, [] => rfl
  | x :: xs, y :: ys => by
    show D.tup [.str x, .int (y : Int)] :: zipD (xs.map D.str) (nl ys) = _
    rw [zip_strs xs ys]
    rfl
def badR (n : Nat) (i : Int) : Bool := decide (i < 0) || decide (0 < i / 2 ^ n)
theorem badR_nat {n r : Nat} (h : r < 2 ^ n) : badR n (r : Int) = false := by
  unfold badR
  have a : ¬ ((r : Int) < 0) := by omega
  have b : ((r : Int) / 2 ^ n) = 0 := by
    have : ((r : Int) / 2 ^ n) = ((r / 2 ^ n : Nat) : Int) := by simp
    rw [this, Nat.div_eq_of_lt h]
    rfl
  rw [b]
  simp
section
variable {S : Sto} {l : List (Str × Nat)}
theorem sp_words (hB : sideB l = true) (hz : l.length ≤ 1000) : m_words_of [.lst (l.map dS)] S = .ok (.own (.lst ((wdsOf l).map D.str))) S ∧ (∀ x ∈ wdsOf l, Tx 8 x) ∧ (wdsOf l).length ≤ 12 := by
  obtain ⟨h1, h2, h3⟩ := sideB_ok hB
  have t : ∀ p ∈ l, Tx 6 p.1 ∧ p.2 ≤ 12 := fun p hp => ⟨Tx.name (h1 p hp).1, (h1 p hp).2⟩
  have w := wds_len l
  exact ⟨words_ok S l (sides_short t) (by omega), wds_tx t, by omega⟩
def bws (bx ln : Nat) : List Str := wdsOf [("box", bx), ("lane", ln)]
theorem bws_len (bx ln : Nat) : (bws bx ln).length = bx + ln := by
  unfold bws
  rw [wds_len]
  simp
theorem tx_box : Tx 6 "box" := ⟨by decide +kernel, by decide +kernel⟩
theorem tx_lane : Tx 6 "lane" := ⟨by decide +kernel, by decide +kernel⟩
theorem bws_ok {bx ln : Nat} (hb : bx ≤ 12) (hl : ln ≤ 12) : m_words_of [.lst [.tup [.str "box", nd bx], .tup [.str "lane", nd ln]]] S = .ok (.own (.lst ((bws bx ln).map D.str))) S ∧ ∀ x ∈ bws bx ln, Tx 8 x := by
  have t : ∀ p ∈ ([("box", bx), ("lane", ln)] : List (Str × Nat)), Tx 6 p.1 ∧ p.2 ≤ 12 := fun p hp => by
    simp only [List.mem_cons, List.not_mem_nil, or_false] at hp
    rcases hp with rfl | rfl
    · exact ⟨tx_box, hb⟩
    · exact ⟨tx_lane, hl⟩
  have w := bws_len bx ln
  exact ⟨words_ok S [("box", bx), ("lane", ln)] (sides_short t) (by show (bws bx ln).length ≤ _; omega), wds_tx t⟩
theorem spT_ok (is : List Int) (rd sd : D) (hrd : rd = .lst (is.map D.int) ∨ rd = .tup (is.map D.int)) (hi : is.length ≤ 1000) (bx ln : Nat) (ws : List Str) (hw : ws.length ≤ 12) (s5 s6 : Sl) :
    spT [.v rd, .v sd, .v (nd bx), .v (nd ln), .v (.lst (ws.map D.str)), s5, s6, .no, .no, .no] S = if is.length = bx + ln ∧ is.any (badR ws.length) = false then .nx [.v rd, .v sd, .v (nd bx), .v (nd ln), .v (.lst (ws.map D.str)), s5, s6, .no, .no, .no] S else .exc "BadRows" none [.v rd, .v sd, .v (nd bx), .v (nd ln), .v (.lst (ws.map D.str)), s5, s6, .no, .no, .no] S := by
  have c := flc_of (mi := itL (eV 0)) (te := eOr (eOp iLt (eV 7) (eC (.int 0))) (eOp iGt (eOp iShr (eV 7) (eCB fLen (aCons (eV 4) aNil))) (eC (.int 0)))) (k := 7) (vs := [7]) (env := [.v rd, .v sd, .v (nd bx), .v (nd ln), .v (.lst (ws.map D.str)), s5, s6, .no, .no, .no]) (S := S) D.int (fun i => .bl (badR ws.length i)) is (by rcases hrd with rfl | rfl <;> rfl) (by omega) fun i hi => by
    have h0 : (0 : Int) ≤ (ws.length : Int) := by omega
    unfold badR
    by_cases q : i < 0
    · simp [q]
    · simp [q]
  have f3 : fAny S [.lst (is.map fun i => .bl (badR ws.length i))] = some (.bl (is.any (badR ws.length))) := by
    have := fAny_eq S (is.map (badR ws.length))
    rw [List.map_map, List.any_map] at this
    exact this
  have ne : fNe S (.int (is.length : Int)) (.int ((bx : Int) + (ln : Int))) = some (.bl (!decide (is.length = bx + ln))) := by
    rw [fNe_int]
    congr 3
    exact decide_eq_decide.mpr (by omega)
  have len : fLen S [rd] = some (.int is.length) := by
    rcases hrd with rfl | rfl <;> simp
  unfold spT
  by_cases h : is.length = bx + ln
  · cases z : is.any (badR ws.length) with
    | false => simp [-fLc_eq, -List.map_map, c, f3, ne, len, h, z]
    | true => simp [-fLc_eq, -List.map_map, c, f3, ne, len, h, z]
  · simp [-fLc_eq, -List.map_map, c, f3, ne, len, h]
theorem spread_ok (hB : sideB l = true) (hz : l.length ≤ 1000) (rs : List Nat) (rd : D) (hrd : rd = .lst (nl rs) ∨ rd = .tup (nl rs)) (bx ln : Nat) (hb : bx ≤ 12) (hln : ln ≤ 12) (hlen : rs.length = bx + ln) (hr : ∀ r ∈ rs, r < 2 ^ (l.map (·.2)).sum) :
    m_spread_text [rd, .lst (l.map dS), nd bx, nd ln] S = .ok (.val (.str (txtOf (bws bx ln) (wdsOf l) rs))) S := by
  obtain ⟨w1, w2, w3⟩ := sp_words (S := S) hB hz
  obtain ⟨h1, _, _⟩ := sideB_ok hB
  have N := need_sides S l hz fun p hp => by have := (Tx.name (h1 p hp).1).2; exact Nat.le_trans this (by omega)
  rw [if_pos hB] at N
  obtain ⟨b1, b2⟩ := bws_ok (S := S) hb hln
  have bl := bws_len bx ln
  have en : nl rs = (rs.map Int.ofNat).map D.int := by simp [nl]
  have t := spT_ok (S := S) (rs.map Int.ofNat) rd (.lst (l.map dS)) (by rw [← en]; exact hrd) (by simp; omega) bx ln (wdsOf l) w3 .no .no
  rw [if_pos ⟨by simpa using hlen, by
    rw [wds_len, List.any_map, List.any_eq_false]
    intro r hm
    have := badR_nat (hr r hm)
    simpa using this⟩] at t
  obtain ⟨kq, sq⟩ : ∃ kq, rd.seq = some (kq, nl rs) := by rcases hrd with rfl | rfl <;> exact ⟨_, rfl⟩
  have two := szB_of (n := 2) (by omega)
  obtain ⟨s6, s7, g⟩ := sp_go (rd := rd) (sd := .lst (l.map dS)) (bd := nd bx) (ld := nd ln) (S := S) w3 w2 ((bws bx ln).zip rs) [] .no .no (fun p hp => b2 _ (List.of_mem_zip hp).1) (by rw [List.length_zip]; simp; omega)
  have L : spL [.v rd, .v (.lst (l.map dS)), .v (nd bx), .v (nd ln), .v (.lst ((wdsOf l).map D.str)), .o (.lst []), .no, .no, .no, .no] S = .nx (spE rd (.lst (l.map dS)) (nd bx) (nd ln) (wdsOf l) (parts (bws bx ln) (wdsOf l) rs) s6 s7) S := by
    unfold spL
    have it : itZB (aCons (eCall m_words_of [] (aCons (mFrz (fLst (aCons (eTup (aCons (eC (.str "box")) (aCons (eV 2) aNil))) (aCons (eTup (aCons (eC (.str "lane")) (aCons (eV 3) aNil))) aNil)))) aNil)) (aCons (eV 0) aNil)) [.v rd, .v (.lst (l.map dS)), .v (nd bx), .v (nd ln), .v (.lst ((wdsOf l).map D.str)), .o (.lst []), .no, .no, .no, .no] S = .ok (((bws bx ln).zip rs).map fun p => .tup [.str p.1, nd p.2]) S := by
      rw [← zip_strs]
      simp [b1, two, sq]
    rw [sFor_eq, it, out_ok']
    rw [List.nil_append] at g
    exact g
  have j := join_ok (me := eV 5) (env := [.v rd, .v (.lst (l.map dS)), .v (nd bx), .v (nd ln), .v (.lst ((wdsOf l).map D.str)), .v (.lst ((parts (bws bx ln) (wdsOf l) rs).map D.str)), s6, s7, .no, .no]) (S := S) (sep := "; ") (xs := parts (bws bx ln) (wdsOf l) rs) (n := 143) (k := 2) rfl txs (parts_tx b2 w2 w3) (by
    have := parts_len (bws bx ln) (wdsOf l) rs
    have : (parts (bws bx ln) (wdsOf l) rs).length * (143 + 2) ≤ 24 * 145 := Nat.mul_le_mul (by omega) (by omega)
    omega)
  have z0 := szB_of (n := 0) (by omega)
  rw [spread_eq]
  simp [-eJoin_eq, N, w1, t, z0, L, j, txtOf]
end
end Fb
namespace Fb
open PySem L2 Mm Gf
theorem permF {α : Type} {φ : α → D} (f : D → α) (hf : ∀ a, f (φ a) = a) {xs : List α} {ys : List D} (p : ys.Perm (xs.map φ)) : ∃ zs : List α, ys = zs.map φ ∧ zs.Perm xs := by
  refine ⟨ys.map f, ?_, ?_⟩
  · rw [List.map_map]
    have h : ∀ d ∈ ys, (φ ∘ f) d = d := fun d hd => by
      obtain ⟨i, _, rfl⟩ := List.mem_map.mp (p.mem_iff.mp hd)
      show φ (f (φ i)) = φ i
      rw [hf]
    exact (List.map_congr_left h |>.trans (List.map_id ys)).symm
  · have := p.map f
    rw [List.map_map] at this
    have e : f ∘ φ = id := funext hf
    rwa [e, List.map_id] at this
def unS : D → Str
  | .str x => x
  | _ => Str.empty
end Fb
namespace Fb
open PySem L2 Mm Gf
theorem seq_of {a b : MS} {e e1 : Envr} {S S1 : Sto} (h : a e S = .nx e1 S1) : sSeq a b e S = b e1 S1 := by
  rw [sSeq_eq, h]
end Fb
namespace Fb
open PySem L2 Mm Gf
def al (c : Nat) : Bool := Txt.isalnum ⟨#[c]⟩
theorem dw_le (p : Nat → Bool) : ∀ cs : List Nat, (cs.dropWhile p).length ≤ cs.length
  | [] => Nat.le_refl _
  | c :: cs => by
    rw [List.dropWhile_cons]
    split
    · have := dw_le p cs
      simp only [List.length_cons]
      omega
    · exact Nat.le_refl _
theorem tw_le (p : Nat → Bool) (r : List Nat) : (r.takeWhile p).length ≤ r.length := by
  have := congrArg List.length (List.takeWhile_append_dropWhile (p := p) (l := r))
  rw [List.length_append] at this
  omega
theorem tw_take (p : Nat → Bool) (r : List Nat) : r.take (r.takeWhile p).length = r.takeWhile p := by
  have h : (r.takeWhile p ++ r.dropWhile p).take (r.takeWhile p).length = r.takeWhile p := List.take_left
  rwa [List.takeWhile_append_dropWhile] at h
theorem tw_drop (p : Nat → Bool) (r : List Nat) : r.drop (r.takeWhile p).length = r.dropWhile p := by
  have h : (r.takeWhile p ++ r.dropWhile p).drop (r.takeWhile p).length = r.dropWhile p := List.drop_left
  rwa [List.takeWhile_append_dropWhile] at h
@[simp] theorem eAlnum_eq (mo : ME) (env : Envr) (S : Sto) : eAlnum mo env S = (mo env S).bind fun d S1 => match d with
  | .str x => .ok (.bl (Txt.isalnum x)) S1
  | _ => .stuck := rfl
@[simp] theorem eSlS_eq (me : ME) (ml mh : MO) (env : Envr) (S : Sto) : eSlS me ml mh env S = (me env S).bind fun d S1 => (ml env S1).bind fun lo S2 => (mh env S2).bind fun hi S3 => match d with
  | .str z => if szB z.length then .ok (.str (Txt.slice z lo hi)) S3 else .stuck
  | _ => .stuck := rfl
def toks : List Nat → Nat → List (Str × Nat)
  | [], _ => []
  | c :: cs, p => if al c = true then (⟨(c :: cs.takeWhile al).toArray⟩, p) :: toks (cs.dropWhile al) (p + 1 + (cs.takeWhile al).length) else if c = 32 then toks cs (p + 1) else (⟨#[c]⟩, p) :: toks cs (p + 1)
termination_by cs => cs.length
decreasing_by
  · have := dw_le al cs
    simp only [List.length_cons]
    omega
  · simp
  · simp
def tokD (t : Str × Nat) : D := .tup [.str t.1, nd t.2]
theorem drop_at {α : Type} {cs : List α} {i : Nat} {c : α} {r : List α} (h : cs.drop i = c :: r) : cs[i]? = some c ∧ cs.drop (i + 1) = r ∧ i < cs.length := by
  have a : cs[i]? = some c := by
    have := congrArg (·[0]?) h
    simpa using this
  have l : i < cs.length := (List.getElem?_eq_some_iff.mp a).1
  have b : cs.drop (i + 1) = r := by
    have := congrArg (List.drop 1) h
    simpa [List.drop_drop, Nat.add_comm] using this
  exact ⟨a, b, l⟩
abbrev poE (z : Str) (acc : List (Str × Nat)) (p e : Sl) : Envr := [.v (.str z), .o (.lst (acc.map tokD)), p, e]
def poIn : MS := whL (cAnd (cB (eOp iLt (eV 3) (eCB fLen (aCons (eV 0) aNil)))) (cB (eAlnum (eOp fIxS (eV 0) (eV 3))))) (sAug 3 (fun i j => i + j) (eC (.int 1))) 4000
theorem len_str (S : Sto) {z : Str} (h : z.length ≤ 3000) : fLen S [.str z] = some (.int z.length) := by
  show (if szB z.length then some (D.int z.length) else none) = _
  rw [szB_of (by omega)]
  rfl
theorem ix_str' (S : Sto) {z : Str} (h : z.length ≤ 3000) {i c : Nat} (hc : z.cps.toList[i]? = some c) : fIxS S (.str z) (.int (i : Int)) = some (.str ⟨#[c]⟩) := by
  show (if szB z.length then (atI z.cps.toList (i : Int)).map fun c => D.str ⟨#[c]⟩ else none) = _
  rw [szB_of (by omega), if_pos rfl, Mm.atI_nat, hc]
  rfl
theorem poIn_go (S : Sto) {z : Str} (hz : z.length ≤ 3000) (acc : List (Str × Nat)) (p : Sl) : ∀ (n e : Nat) (r : List Nat), z.cps.toList.drop e = r → e ≤ z.length → (r.takeWhile al).length < n →
    whL (cAnd (cB (eOp iLt (eV 3) (eCB fLen (aCons (eV 0) aNil)))) (cB (eAlnum (eOp fIxS (eV 0) (eV 3))))) (sAug 3 (fun i j => i + j) (eC (.int 1))) n (poE z acc p (.v (nd e))) S = .nx (poE z acc p (.v (nd (e + (r.takeWhile al).length)))) S
  | 0, e, r, _, _, h => by omega
  | n + 1, e, r, hr, he, h => by
    have L := len_str S hz
    have sl : z.cps.toList.length = z.length := by simp [Str.length]
    unfold whL
    cases r with
    | nil =>
      have ee : e = z.length := by
        have := List.drop_eq_nil_iff.mp hr
        omega
      have d : ¬ e < z.length := by omega
      simp [L, d]
    | cons c r =>
      obtain ⟨h1, h2, h3⟩ := drop_at hr
      have lt : e < z.length := by omega
      have ix := ix_str' S hz h1
      cases ha : al c with
      | false =>
        have ha' : Txt.isalnum ⟨#[c]⟩ = false := ha
        have tw : (c :: r).takeWhile al = [] := by rw [List.takeWhile_cons, ha]; rfl
        rw [tw]
        simp [L, lt, ix, ha']
      | true =>
        have ha' : Txt.isalnum ⟨#[c]⟩ = true := ha
        have tw : (c :: r).takeWhile al = c :: r.takeWhile al := by rw [List.takeWhile_cons, ha]; rfl
        rw [tw, List.length_cons] at h
        have ih := poIn_go S hz acc p n (e + 1) r h2 (by omega) (by omega)
        rw [tw, List.length_cons]
        have e1 : e + ((r.takeWhile al).length + 1) = e + 1 + (r.takeWhile al).length := by omega
        rw [e1]
        rw [← ih]
        simp [L, lt, ix, ha']
        rfl
def poB : MS := sSeq (sAsg (eOp dAdd (eV 2) (eC (.int 1))) (gN 3))
    (sSeq (sIf (cB (eAlnum (eOp fIxS (eV 0) (eV 2)))) poIn sNil)
    (sSeq (sIf (cB (eOp fNe (eOp fIxS (eV 0) (eV 2)) (eC (.str " ")))) (sApp 1 (eTup (aCons (eSlS (eV 0) (oSome (eV 2)) (oSome (eV 3))) (aCons (eV 2) aNil)))) sNil)
    (sAsg (eV 3) (gN 2))))
theorem parts_eq : m_parts_of = mFn 4 (sSeq (sOwn 1 (fLst aNil)) (sSeq (sAsg (eC (.int 0)) (gN 2)) (sSeq (whL (cB (eOp iLt (eV 2) (eCB fLen (aCons (eV 0) aNil)))) poB 4000) (sRetO 1)))) := rfl
theorem slice_ok (z : Str) {i j : Nat} (hij : i ≤ j) (hj : j ≤ z.length) : Txt.slice z (some (i : Int)) (some (j : Int)) = ⟨((z.cps.toList.drop i).take (j - i)).toArray⟩ := by
  have e := StrLaws.sliced_plain z hij hj
  have l := StrLaws.strSliceIndices_plain hij hj
  unfold Txt.slice
  split
  · rename_i h
    have h : ((Builtin.Str.strSliceIndices (some (i : Int)) (some (j : Int)) 1 z.length).length == z.length) = true := by simpa using h
    have h := beq_iff_eq.mp h
    rw [l] at h
    have h : j - i = z.length := by simpa using h
    have hi : i = 0 := by omega
    subst hi
    have hj' : j = z.length := by omega
    subst hj'
    have sl : z.cps.toList.length = z.length := by simp [Str.length]
    have : ((z.cps.toList.drop 0).take (z.length - 0)) = z.cps.toList := by
      rw [List.drop_zero, Nat.sub_zero, ← sl, List.take_length]
    rw [this]
  · rw [e]
theorem space_ok : PyData.strOk " " = true := by decide +kernel
theorem sign_ok {c : Nat} (h : c < 0x110000) : PyData.strOk ⟨#[c]⟩ = true := by
  unfold PyData.strOk
  simp [h]
theorem al_space : al 32 = false := by decide +kernel
theorem po_step (S : Sto) {z : Str} (hz : z.length ≤ 3000) (hok : PyData.strOk z = true) (acc : List (Str × Nat)) (ha : acc.length ≤ 3000) (p : Nat) (s3 : Sl) (c : Nat) (r : List Nat) (hr : z.cps.toList.drop p = c :: r) :
    poB (poE z acc (.v (nd p)) s3) S = .nx (poE z (acc ++ (if al c = true then [((⟨(c :: r.takeWhile al).toArray⟩ : Str), p)] else if c = 32 then [] else [((⟨#[c]⟩ : Str), p)])) (.v (nd (if al c = true then p + 1 + (r.takeWhile al).length else p + 1))) (.v (nd (if al c = true then p + 1 + (r.takeWhile al).length else p + 1)))) S := by
  obtain ⟨h1, h2, h3⟩ := drop_at hr
  have sl : z.cps.toList.length = z.length := by simp [Str.length]
  have ix := ix_str' S hz h1
  have z2 := szB_of (n := 2) (by omega)
  have za := szB_of (n := acc.length + 1) (by omega)
  have zz := szB_of (n := z.length) (by omega)
  have hc : c < 0x110000 := by
    unfold PyData.strOk at hok
    rw [← Array.all_toList, List.all_eq_true] at hok
    exact of_decide_eq_true (hok c (List.mem_of_getElem? h1))
  have ne : fNe S (.str ⟨#[c]⟩) (.str " ") = some (.bl (!decide ((⟨#[c]⟩ : Str) = " "))) := fNe_str S (sign_ok hc) space_ok
  have eqs : ((⟨#[c]⟩ : Str) = " ") ↔ c = 32 := by
    have e : (" " : Str) = ⟨#[32]⟩ := by decide +kernel
    rw [e]
    constructor
    · intro h
      have := congrArg (fun x : Str => x.cps.toList) h
      simpa using this
    · rintro rfl; rfl
  have tl : (r.takeWhile al).length ≤ r.length := tw_le al r
  have rl : r.length + p + 1 = z.length := by
    have := congrArg List.length hr
    simp only [List.length_drop, List.length_cons] at this
    omega
  have a0 : (sAsg (eOp dAdd (eV 2) (eC (.int 1))) (gN 3)) (poE z acc (.v (nd p)) s3) S = .nx (poE z acc (.v (nd p)) (.v (nd (p + 1)))) S := by simp
  unfold poB
  rw [seq_of a0]
  cases hal : al c with
  | true =>
    have hal' : Txt.isalnum ⟨#[c]⟩ = true := hal
    have go := poIn_go S hz acc (.v (nd p)) 4000 (p + 1) r h2 (by omega) (by omega)
    have a1 : (sIf (cB (eAlnum (eOp fIxS (eV 0) (eV 2)))) poIn sNil) (poE z acc (.v (nd p)) (.v (nd (p + 1)))) S = .nx (poE z acc (.v (nd p)) (.v (nd (p + 1 + (r.takeWhile al).length)))) S := by
      simp only [sIf_eq, cB_eq, eAlnum_eq, eOp_eq, eV_eq, List.getElem?_cons_succ, List.getElem?_cons_zero, bind_ok', ix, opt_some', hal', out_ok', if_true]
      exact go
    have n32 : c ≠ 32 := fun e => by rw [e, al_space] at hal; cases hal
    have sl2 := slice_ok z (i := p) (j := p + 1 + (r.takeWhile al).length) (by omega) (by omega)
    have tk : (z.cps.toList.drop p).take (p + 1 + (r.takeWhile al).length - p) = c :: r.takeWhile al := by
      rw [hr]
      have : p + 1 + (r.takeWhile al).length - p = (r.takeWhile al).length + 1 := by omega
      rw [this, List.take_succ_cons]
      rw [tw_take]
    rw [tk] at sl2
    have neq : decide ((⟨#[c]⟩ : Str) = " ") = false := decide_eq_false fun e => n32 (eqs.mp e)
    rw [neq] at ne
    rw [seq_of a1]
    have sl3 : Txt.slice z (some (p : Int)) (some ((p : Int) + 1 + ((r.takeWhile al).length : Int))) = ⟨(c :: r.takeWhile al).toArray⟩ := sl2
    simp [ix, ne, zz, z2, za, sl3, n32, tokD]
  | false =>
    have hal' : Txt.isalnum ⟨#[c]⟩ = false := hal
    have a1 : (sIf (cB (eAlnum (eOp fIxS (eV 0) (eV 2)))) poIn sNil) (poE z acc (.v (nd p)) (.v (nd (p + 1)))) S = .nx (poE z acc (.v (nd p)) (.v (nd (p + 1)))) S := by
      simp only [sIf_eq, cB_eq, eAlnum_eq, eOp_eq, eV_eq, List.getElem?_cons_succ, List.getElem?_cons_zero, bind_ok', ix, opt_some', hal', out_ok', Bool.false_eq_true, if_false, sNil_eq]
    rw [seq_of a1]
    by_cases n32 : c = 32
    · have neq : decide ((⟨#[c]⟩ : Str) = " ") = true := decide_eq_true (eqs.mpr n32)
      rw [neq] at ne
      simp [ix, ne, n32]
      simp [n32] at ix ne
      simp [ix, ne]
    · have neq : decide ((⟨#[c]⟩ : Str) = " ") = false := decide_eq_false fun e => n32 (eqs.mp e)
      rw [neq] at ne
      have sl2 := slice_ok z (i := p) (j := p + 1) (by omega) (by omega)
      have tk : (z.cps.toList.drop p).take (p + 1 - p) = [c] := by
        rw [hr]
        have : p + 1 - p = 1 := by omega
        rw [this]
        rfl
      rw [tk] at sl2
      have sl3 : Txt.slice z (some (p : Int)) (some ((p : Int) + 1)) = ⟨#[c]⟩ := sl2
      simp [ix, ne, zz, z2, za, sl3, n32, tokD]
theorem toks_cons (c : Nat) (r : List Nat) (p : Nat) : toks (c :: r) p = (if al c = true then [((⟨(c :: r.takeWhile al).toArray⟩ : Str), p)] else if c = 32 then [] else [((⟨#[c]⟩ : Str), p)]) ++ toks (if al c = true then r.dropWhile al else r) (if al c = true then p + 1 + (r.takeWhile al).length else p + 1) := by
  rw [toks]
  split
  · rfl
  · split <;> rfl
theorem toks_len : ∀ (n : Nat) (cs : List Nat) (p : Nat), cs.length ≤ n → (toks cs p).length ≤ cs.length
  | _, [], p, _ => by simp [toks]
  | 0, c :: cs, p, h => by simp at h
  | n + 1, c :: cs, p, h => by
    simp only [List.length_cons] at h
    rw [toks_cons, List.length_append]
    have dw := dw_le al cs
    have i1 := toks_len n (cs.dropWhile al) (p + 1 + (cs.takeWhile al).length) (by omega)
    have i2 := toks_len n cs (p + 1) (by omega)
    simp only [List.length_cons]
    split
    · simp; omega
    · split <;> simp <;> omega
theorem po_go (S : Sto) {z : Str} (hz : z.length ≤ 3000) (hok : PyData.strOk z = true) : ∀ (n p : Nat) (acc : List (Str × Nat)) (s3 : Sl) (r : List Nat), z.cps.toList.drop p = r → p ≤ z.length → r.length < n → acc.length ≤ p →
    ∃ s3', whL (cB (eOp iLt (eV 2) (eCB fLen (aCons (eV 0) aNil)))) poB n (poE z acc (.v (nd p)) s3) S = .nx (poE z (acc ++ toks r p) (.v (nd z.length)) s3') S
  | 0, p, acc, s3, r, _, _, h, _ => by omega
  | n + 1, p, acc, s3, r, hr, hp, h, ha => by
    have L := len_str S hz
    have sl : z.cps.toList.length = z.length := by simp [Str.length]
    unfold whL
    cases r with
    | nil =>
      have ee : p = z.length := by
        have := List.drop_eq_nil_iff.mp hr
        omega
      have d : decide ((p : Int) < (z.length : Int)) = false := decide_eq_false (by omega)
      refine ⟨s3, ?_⟩
      subst ee
      simp [L, toks]
    | cons c r =>
      obtain ⟨h1, h2, h3⟩ := drop_at hr
      have lt : p < z.length := by omega
      have st := po_step S hz hok acc (by omega) p s3 c r hr
      have tl : (r.takeWhile al).length ≤ r.length := tw_le al r
      have rl : r.length + p + 1 = z.length := by
        have := congrArg List.length hr
        simp only [List.length_drop, List.length_cons] at this
        omega
      have dw := dw_le al r
      simp only [List.length_cons] at h
      have nx : z.cps.toList.drop (if al c = true then p + 1 + (r.takeWhile al).length else p + 1) = (if al c = true then r.dropWhile al else r) := by
        split
        · rw [← List.drop_drop, h2]
          exact tw_drop al r
        · exact h2
      obtain ⟨s3', ih⟩ := po_go S hz hok n (if al c = true then p + 1 + (r.takeWhile al).length else p + 1) (acc ++ (if al c = true then [((⟨(c :: r.takeWhile al).toArray⟩ : Str), p)] else if c = 32 then [] else [((⟨#[c]⟩ : Str), p)])) (.v (nd (if al c = true then p + 1 + (r.takeWhile al).length else p + 1))) (if al c = true then r.dropWhile al else r) nx (by split <;> omega) (by split <;> omega) (by
        rw [List.length_append]
        split
        · simp; omega
        · split <;> simp <;> omega)
      refine ⟨s3', ?_⟩
      rw [toks_cons, ← List.append_assoc, ← ih]
      have ct : (cB (eOp iLt (eV 2) (eCB fLen (aCons (eV 0) aNil)))) (poE z acc (.v (nd p)) s3) S = .ok true S := by simp [L, lt]
      rw [ct, out_ok', if_pos rfl, st]
theorem parts_ok (S : Sto) {z : Str} (hz : z.length ≤ 3000) (hok : PyData.strOk z = true) : m_parts_of [.str z] S = .ok (.own (.lst ((toks z.cps.toList 0).map tokD))) S := by
  have sl : z.cps.toList.length = z.length := by simp [Str.length]
  obtain ⟨s3, e⟩ := po_go S hz hok 4000 0 [] .no z.cps.toList rfl (Nat.zero_le _) (by omega) (Nat.le_refl _)
  have z0 := szB_of (n := 0) (by omega)
  rw [List.nil_append] at e
  have e' : whL (cB (eOp iLt (eV 2) (eCB fLen (aCons (eV 0) aNil)))) poB 4000 [.v (.str z), .o (.lst []), .v (.int 0), .no] S = _ := e
  rw [parts_eq]
  simp [z0, e']
end Fb
namespace Mm
open PySem L2
@[simp] theorem sAugF_eq (c f : Str) (h : Int → Int → Int) (mo me : ME) (env : Envr) (S : Sto) : sAugF c f h mo me env S = (mo env S).out env fun d S1 => match d with
  | .ref n => (match S1[n]? with
    | some (.ins c' fs) => if c' = c ∧ fs.length < 1000 then (match fs.lookup f with
      | some (.int i) => (me env S1).out env fun y S2 => (match y with
        | .int j => (match S2[n]? with
          | some (.ins c2 fs2) => if c2 = c ∧ fs2.length < 1000 then .nx env (S2.set n (.ins c (putFD f (.int (h i j)) fs2))) else .stuck
          | _ => .stuck)
        | _ => .stuck)
      | _ => .stuck) else .stuck
    | _ => .stuck)
  | _ => .stuck := rfl
theorem fListD_dic (S : Sto) (ks : List (Key × D)) : fListD S [.dic ks] = some (.lst (ks.map fun kv => keyV kv.1)) := rfl
end Mm
namespace Fb
open PySem L2 Mm Gf
abbrev Tok := Str × Nat
def rdF (T : List Tok) (k e : Nat) : List (Str × D) := [("found", .lst (T.map tokD)), ("step", nd k), ("end", nd e)]
def rdC (T : List Tok) (k e : Nat) : Cell := .ins "Reader" (rdF T k e)
def hdS : List Tok → Str
  | [] => ""
  | t :: _ => t.1
def poS (e : Nat) : List Tok → Nat
  | [] => e
  | t :: _ => t.2
theorem rd_found (T : List Tok) (k e : Nat) : (rdF T k e).lookup ("found" : Str) = some (.lst (T.map tokD)) := rfl
theorem rd_step (T : List Tok) (k e : Nat) : (rdF T k e).lookup ("step" : Str) = some (.int (k : Int)) := rfl
theorem rd_end (T : List Tok) (k e : Nat) : (rdF T k e).lookup ("end" : Str) = some (.int (e : Int)) := rfl
theorem rd_ahead (T : List Tok) (k e : Nat) : (rdF T k e).lookup ("ahead" : Str) = none := rfl
theorem rd_wrong (T : List Tok) (k e : Nat) : (rdF T k e).lookup ("wrong" : Str) = none := rfl
theorem rd_take (T : List Tok) (k e : Nat) : (rdF T k e).lookup ("take" : Str) = none := rfl
theorem rd_put (T : List Tok) (k e : Nat) : putFD "step" (.int ((k : Int) + 1)) (rdF T k e) = rdF T (k + 1) e := rfl
theorem ahead_ok {S : Sto} {a k e : Nat} {T : List Tok} (h : S[a]? = some (rdC T k e)) (hT : T.length ≤ 3000) : m_Reader_ahead [.ref a] S = .ok (.val (.str (hdS (T.drop k)))) S := by
  have z := szB_of (n := T.length) (by omega)
  unfold rdC at h
  by_cases hk : k < T.length
  · obtain ⟨t, r, dr⟩ : ∃ t r, T.drop k = t :: r := ⟨_, _, List.drop_eq_getElem_cons hk⟩
    have i1 : atI (T.map tokD) (k : Int) = some (tokD t) := by
      rw [Mm.atI_nat, List.getElem?_map, (drop_at dr).1]; rfl
    rw [dr]
    simp [m_Reader_ahead, h, rd_step, rd_found, z, hk, i1, hdS, tokD]
  · have dr : T.drop k = [] := List.drop_eq_nil_iff.mpr (by omega)
    simp [m_Reader_ahead, h, rd_step, rd_found, z, hk, dr, hdS]
theorem wrong_ok {S : Sto} {a k e : Nat} {T : List Tok} (h : S[a]? = some (rdC T k e)) (hT : T.length ≤ 3000) : m_Reader_wrong [.ref a] S = .ok (.val (.int (poS e (T.drop k) : Nat))) S := by
  have z := szB_of (n := T.length) (by omega)
  unfold rdC at h
  by_cases hk : k < T.length
  · obtain ⟨t, r, dr⟩ : ∃ t r, T.drop k = t :: r := ⟨_, _, List.drop_eq_getElem_cons hk⟩
    have i1 : atI (T.map tokD) (k : Int) = some (tokD t) := by
      rw [Mm.atI_nat, List.getElem?_map, (drop_at dr).1]; rfl
    rw [dr]
    simp [m_Reader_wrong, h, rd_step, rd_found, rd_end, z, hk, i1, poS, tokD]
  · have dr : T.drop k = [] := List.drop_eq_nil_iff.mpr (by omega)
    simp [m_Reader_wrong, h, rd_step, rd_found, rd_end, z, hk, dr, poS]
theorem take_in {S : Sto} {a k e : Nat} {T : List Tok} (h : S[a]? = some (rdC T k e)) (hT : T.length ≤ 3000) {xs : List Str} (hx : hdS (T.drop k) ∈ xs) : m_Reader_take [.ref a, .lst (xs.map D.str)] S = .ok (.val (.str (hdS (T.drop k)))) (S.set a (rdC T (k + 1) e)) := by
  have ah := ahead_ok h hT
  have fi := fInX_strs S true (hdS (T.drop k)) xs
  rw [decide_eq_true hx] at fi
  unfold rdC at h ⊢
  have ll : (rdF T k e).length < 1000 := by show (3 : Nat) < 1000; decide
  simp [m_Reader_take, h, rd_step, rd_ahead, ah, fi, ll, rd_put]
theorem take_no {S : Sto} {a k e : Nat} {T : List Tok} (h : S[a]? = some (rdC T k e)) (hT : T.length ≤ 3000) {xs : List Str} (hx : hdS (T.drop k) ∉ xs) : m_Reader_take [.ref a, .lst (xs.map D.str)] S = .exc "BadText" (some (.int (poS e (T.drop k) : Nat))) S := by
  have ah := ahead_ok h hT
  have wr := wrong_ok h hT
  have fi := fInX_strs S true (hdS (T.drop k)) xs
  rw [decide_eq_false hx] at fi
  unfold rdC at h
  simp [m_Reader_take, h, rd_step, rd_ahead, rd_wrong, ah, wr, fi]
def wK (ws : List Str) : List (Key × D) := ws.zipIdx.map fun p => (.inr p.1, .int ((2 ^ p.2 : Nat) : Int))
theorem keys_wK (ws : List Str) : ((wK ws).map fun kv => keyV kv.1) = ws.map D.str := by
  unfold wK
  rw [List.map_map]
  have : ∀ (ws : List Str) (n : Nat), ((ws.zipIdx n).map ((fun kv : Key × D => keyV kv.1) ∘ fun p : Str × Nat => ((Sum.inr p.1 : Key), D.int ((2 ^ p.2 : Nat) : Int)))) = ws.map D.str := by
    intro ws
    induction ws with
    | nil => intro n; rfl
    | cons w ws ih => intro n; rw [List.zipIdx_cons, List.map_cons, ih]; rfl
  exact this ws 0
theorem look_wK {ws : List Str} {w : Str} (h : w ∈ ws) : lookK (wK ws) (.inr w) = some (.int ((2 ^ ws.idxOf w : Nat) : Int)) := by
  have : ∀ (ws : List Str) (n : Nat), w ∈ ws → lookK ((ws.zipIdx n).map fun p : Str × Nat => ((Sum.inr p.1 : Key), D.int ((2 ^ p.2 : Nat) : Int))) (.inr w) = some (.int ((2 ^ (n + ws.idxOf w) : Nat) : Int)) := by
    intro ws
    induction ws with
    | nil => intro n h; cases h
    | cons x ws ih =>
      intro n h
      rw [List.zipIdx_cons, List.map_cons]
      by_cases e : x = w
      · subst e
        simp [lookK]
      · have hw : w ∈ ws := by
          rcases List.mem_cons.mp h with rfl | h
          · exact absurd rfl e
          · exact h
        have ih := ih (n + 1) hw
        have ne : ¬ (Sum.inr x : Key) = Sum.inr w := fun q => e (by cases q; rfl)
        have e1 : (x :: ws).idxOf w = ws.idxOf w + 1 := by
          rw [List.idxOf_cons]
          have : (x == w) = false := beq_eq_false_iff_ne.mpr e
          rw [this]
          rfl
        rw [e1]
        have e2 : n + (ws.idxOf w + 1) = n + 1 + ws.idxOf w := by omega
        rw [e2, ← ih]
        simp only [lookK, List.find?_cons, ne, decide_false]
  have := this ws 0 h
  rwa [Nat.zero_add] at this
def plus (ws : List Str) (e : Nat) : List Tok → Nat → Except Nat (Nat × List Tok)
  | [], v => .ok (v, [])
  | [t], v => if t.1 = "+" then .error e else .ok (v, [t])
  | t :: u :: r, v => if t.1 = "+" then (if u.1 ∈ ws then plus ws e r (v ^^^ 2 ^ ws.idxOf u.1) else .error u.2) else .ok (v, t :: u :: r)
def rsum (ws : List Str) (e : Nat) : List Tok → Except Nat (Nat × List Tok)
  | [] => .error e
  | t :: r => if t.1 = "0" then .ok (0, r) else if t.1 ∈ ws then plus ws e r (2 ^ ws.idxOf t.1) else .error t.2
end Fb
namespace Fb
open PySem L2 Mm Gf
def TokOk (T : List Tok) : Prop := T.length ≤ 3000 ∧ ∀ t ∈ T, PyData.strOk t.1 = true ∧ t.1 ≠ ""
theorem set_self {S : Sto} {a : Nat} {x : Cell} (h : S[a]? = some x) : S.set a x = S := by
  refine List.ext_getElem? fun i => ?_
  by_cases e : a = i
  · subst e
    rw [h, List.getElem?_set_self (List.getElem?_eq_some_iff.mp h).1]
  · rw [List.getElem?_set_ne e]
theorem set_at {S : Sto} {a : Nat} {x : Cell} (h : S[a]? = some x) (y : Cell) : (S.set a y)[a]? = some y := List.getElem?_set_self (List.getElem?_eq_some_iff.mp h).1
theorem strOk_empty : PyData.strOk "" = true := by decide +kernel
theorem strOk_plus : PyData.strOk "+" = true := by decide +kernel
theorem hd_ok {T : List Tok} (hT : TokOk T) (k : Nat) : PyData.strOk (hdS (T.drop k)) = true := by
  cases h : T.drop k with
  | nil => exact strOk_empty
  | cons t r => exact (hT.2 t (List.mem_of_mem_drop (h ▸ List.mem_cons_self))).1
noncomputable abbrev plC : MT := cB (eOp fEq (eMeth "Reader" "ahead" m_Reader_ahead [] (eV 0) aNil) (eC (.str "+")))
noncomputable abbrev plB : MS := sSeq (sExpr (eMeth "Reader" "take" m_Reader_take [] (eV 0) (aCons (mFrz (fLst (aCons (eC (.str "+")) aNil))) aNil)))
    (sAsg (eOp iXor (eV 3) (eDGetA 1 (eMeth "Reader" "take" m_Reader_take [] (eV 0) (aCons (mFrz (fCB fListD (aCons (eV 1) aNil))) aNil)))) (gN 3))
abbrev rsE (a : Nat) (ws : List Str) (s2 s3 : Sl) : Envr := [.v (.ref a), .v (.dic (wK ws)), s2, s3]
section
variable {T : List Tok} {a e : Nat} {ws : List Str}
theorem plC_ok (hT : TokOk T) {S : Sto} {k : Nat} (h : S[a]? = some (rdC T k e)) (s2 s3 : Sl) : plC (rsE a ws s2 s3) S = .ok (decide (hdS (T.drop k) = "+")) S := by
  have ah := ahead_ok h hT.1
  have fe := fEq_str S (hd_ok hT k) strOk_plus
  unfold rdC at h
  simp [h, rd_ahead, ah, fe]
theorem plB_in (hT : TokOk T) {S : Sto} {k : Nat} (h : S[a]? = some (rdC T k e)) {t u : Tok} {r : List Tok} (hr : T.drop k = t :: u :: r) (ht : t.1 = "+") (hu : u.1 ∈ ws) (s2 : Sl) (v : Nat) : plB (rsE a ws s2 (.v (nd v))) S = .nx (rsE a ws s2 (.v (nd (v ^^^ 2 ^ ws.idxOf u.1)))) (S.set a (rdC T (k + 2) e)) := by
  have t1 := take_in h hT.1 (xs := ["+"]) (by rw [hr]; simp [hdS, ht])
  have h1 := set_at h (rdC T (k + 1) e)
  have hr1 : T.drop (k + 1) = u :: r := (drop_at hr).2.1
  have t2 := take_in h1 hT.1 (xs := ws) (by rw [hr1]; exact hu)
  rw [hr] at t1
  rw [hr1] at t2
  have z1 := szB_of (n := 1) (by omega)
  have ky := keys_wK ws
  have lk := look_wK hu
  simp only [List.map_cons, List.map_nil, hdS] at t1 t2
  have fin : (S.set a (rdC T (k + 1) e)).set a (rdC T (k + 1 + 1) e) = S.set a (rdC T (k + 2) e) := List.set_set ..
  generalize hS : S.set a (rdC T (k + 1) e) = S1 at *
  rw [← fin]
  unfold rdC at h h1
  refine (seq_of (e1 := rsE a ws s2 (.v (nd v))) (S1 := S1) ?_).trans ?_
  · simp [h, rd_take, t1, z1]
  · have l := fListD_dic S1 (wK ws)
    rw [ky] at l
    simp [h1, rd_take, l, t2, lk]
    exact (congrArg (Builtin.bitXor (v : Int)) (by simp)).trans (bxor_nat v (2 ^ ws.idxOf u.1))
theorem plB_no (hT : TokOk T) {S : Sto} {k : Nat} (h : S[a]? = some (rdC T k e)) {t : Tok} {r : List Tok} (hr : T.drop k = t :: r) (ht : t.1 = "+") (hu : hdS r ∉ ws) (s2 : Sl) (v : Nat) : plB (rsE a ws s2 (.v (nd v))) S = .exc "BadText" (some (.int (poS e r : Nat))) (rsE a ws s2 (.v (nd v))) (S.set a (rdC T (k + 1) e)) := by
  have t1 := take_in h hT.1 (xs := ["+"]) (by rw [hr]; simp [hdS, ht])
  have h1 := set_at h (rdC T (k + 1) e)
  have hr1 : T.drop (k + 1) = r := (drop_at hr).2.1
  have t2 := take_no h1 hT.1 (xs := ws) (by rw [hr1]; exact hu)
  rw [hr] at t1
  rw [hr1] at t2
  have z1 := szB_of (n := 1) (by omega)
  have ky := keys_wK ws
  simp only [List.map_cons, List.map_nil, hdS] at t1
  generalize hS : S.set a (rdC T (k + 1) e) = S1 at *
  unfold rdC at h h1
  refine (seq_of (e1 := rsE a ws s2 (.v (nd v))) (S1 := S1) ?_).trans ?_
  · simp [h, rd_take, t1, z1]
  · have l := fListD_dic S1 (wK ws)
    rw [ky] at l
    simp [h1, rd_take, l, t2]
theorem plus_go (hT : TokOk T) (he : ("" : Str) ∉ ws) (s2 : Sl) : ∀ (n : Nat) (r : List Tok) (v k : Nat) (S : Sto), S[a]? = some (rdC T k e) → T.drop k = r → r.length < n →
    match plus ws e r v with
    | .ok q => ∃ k', T.drop k' = q.2 ∧ whL plC plB n (rsE a ws s2 (.v (nd v))) S = .nx (rsE a ws s2 (.v (nd q.1))) (S.set a (rdC T k' e))
    | .error p => ∃ k' E', whL plC plB n (rsE a ws s2 (.v (nd v))) S = .exc "BadText" (some (.int (p : Nat))) E' (S.set a (rdC T k' e))
  | 0, r, v, k, S, _, _, h => absurd h (Nat.not_lt_zero _)
  | n + 1, r, v, k, S, h, hr, hn => by
    have c := plC_ok (ws := ws) hT h s2 (.v (nd v))
    have stop : hdS r ≠ "+" → whL plC plB (n + 1) (rsE a ws s2 (.v (nd v))) S = .nx (rsE a ws s2 (.v (nd v))) (S.set a (rdC T k e)) := fun q => by
      rw [hr, decide_eq_false q] at c
      unfold whL
      rw [c, set_self h]
      rfl
    match r, hr, hn, stop with
    | [], hr, hn, stop => exact ⟨k, hr, stop (by decide)⟩
    | [t], hr, hn, stop =>
      unfold plus
      by_cases ht : t.1 = "+"
      · rw [if_pos ht]
        rw [hr, decide_eq_true (show hdS [t] = "+" from ht)] at c
        refine ⟨k + 1, rsE a ws s2 (.v (nd v)), ?_⟩
        unfold whL
        rw [c, out_ok', if_pos rfl, plB_no hT h hr ht he s2 v]
        rfl
      · rw [if_neg ht]
        exact ⟨k, hr, stop ht⟩
    | t :: u :: r, hr, hn, stop =>
      unfold plus
      by_cases ht : t.1 = "+"
      · rw [if_pos ht]
        rw [hr, decide_eq_true (show hdS (t :: u :: r) = "+" from ht)] at c
        by_cases hu : u.1 ∈ ws
        · rw [if_pos hu]
          have b := plB_in hT h hr ht hu s2 v
          have h2 := set_at h (rdC T (k + 2) e)
          have hr2 : T.drop (k + 2) = r := (drop_at (drop_at hr).2.1).2.1
          simp only [List.length_cons] at hn
          have ih := plus_go hT he s2 n r (v ^^^ 2 ^ ws.idxOf u.1) (k + 2) (S.set a (rdC T (k + 2) e)) h2 hr2 (by omega)
          have st : whL plC plB (n + 1) (rsE a ws s2 (.v (nd v))) S = whL plC plB n (rsE a ws s2 (.v (nd (v ^^^ 2 ^ ws.idxOf u.1)))) (S.set a (rdC T (k + 2) e)) := by
            conv => lhs; unfold whL
            rw [c, out_ok', if_pos rfl, b]
          rw [st]
          simp only [List.set_set] at ih ⊢
          exact ih
        · rw [if_neg hu]
          refine ⟨k + 1, rsE a ws s2 (.v (nd v)), ?_⟩
          unfold whL
          rw [c, out_ok', if_pos rfl, plB_no hT h hr ht hu s2 v]
          rfl
      · rw [if_neg ht]
        exact ⟨k, hr, stop ht⟩
noncomputable def sumB : MS := sSeq (sAsg (eMeth "Reader" "take" m_Reader_take [] (eV 0) (aCons (eOp dAdd (mFrz (fCB fListD (aCons (eV 1) aNil))) (mFrz (fLst (aCons (eC (.str "0")) aNil)))) aNil)) (gN 2))
    (sSeq (sIf (cB (eOp fEq (eV 2) (eC (.str "0")))) (sRet (eC (.int 0))) sNil)
    (sSeq (sAsg (eDGetA 1 (eV 2)) (gN 3))
    (sSeq (whL plC plB 4000)
    (sRet (eV 3)))))
theorem sum_eq : m_read_sum = mFn 4 sumB := rfl
theorem rsum_cons (t : Tok) (r : List Tok) : rsum ws e (t :: r) = if t.1 = "0" then .ok (0, r) else if t.1 ∈ ws then plus ws e r (2 ^ ws.idxOf t.1) else .error t.2 := rfl
theorem emp_ne : ¬ ("" : Str) = "0" := by decide +kernel
theorem strOk_zero : PyData.strOk "0" = true := by decide +kernel
theorem sum_ok (hT : TokOk T) (he : ("" : Str) ∉ ws) (hw : ws.length ≤ 100) {k : Nat} {S : Sto} (h : S[a]? = some (rdC T k e)) :
    match rsum ws e (T.drop k) with
    | .ok q => ∃ k', T.drop k' = q.2 ∧ m_read_sum [.ref a, .dic (wK ws)] S = .ok (.val (nd q.1)) (S.set a (rdC T k' e))
    | .error p => ∃ k', m_read_sum [.ref a, .dic (wK ws)] S = .exc "BadText" (some (.int (p : Nat))) (S.set a (rdC T k' e)) := by
  have l := fListD_dic S (wK ws)
  rw [keys_wK] at l
  have z1 := szB_of (n := 1) (by omega)
  have zz := szB_of (n := ws.length + 1) (by omega)
  have bad : hdS (T.drop k) ∉ ws ++ [("0" : Str)] → m_read_sum [.ref a, .dic (wK ws)] S = .exc "BadText" (some (.int (poS e (T.drop k) : Nat))) S := fun q => by
    have t1 := take_no h hT.1 q
    rw [List.map_append] at t1
    have h' := h
    unfold rdC at h'
    rw [sum_eq]
    unfold sumB
    simp [h', rd_take, l, z1, zz] at t1 ⊢
    simp [t1]
  cases hr : T.drop k with
  | nil =>
    refine ⟨k, ?_⟩
    rw [set_self h, bad (by rw [hr]; simp [hdS, he, emp_ne]), hr]
    rfl
  | cons t r =>
    rw [rsum_cons]
    have h1 := set_at h (rdC T (k + 1) e)
    have hr1 : T.drop (k + 1) = r := (drop_at hr).2.1
    by_cases hm : t.1 ∈ ws ++ [("0" : Str)]
    · have t1 := take_in h hT.1 (xs := ws ++ [("0" : Str)]) (by rw [hr]; exact hm)
      rw [hr] at t1
      have fe : fEq (S.set a (rdC T (k + 1) e)) (.str t.1) (.str "0") = some (.bl (decide (t.1 = "0"))) := fEq_str _ (by have := hd_ok hT k; rw [hr] at this; exact this) strOk_zero
      simp only [hdS] at t1
      rw [List.map_append] at t1
      have h' := h
      unfold rdC at h'
      have c1 : (sAsg (eMeth "Reader" "take" m_Reader_take [] (eV 0) (aCons (eOp dAdd (mFrz (fCB fListD (aCons (eV 1) aNil))) (mFrz (fLst (aCons (eC (.str "0")) aNil)))) aNil)) (gN 2)) (rsE a ws .no .no) S = .nx (rsE a ws (.v (.str t.1)) .no) (S.set a (rdC T (k + 1) e)) := by
        simp [h', rd_take, l, z1, zz] at t1 ⊢
        simp [t1]
      by_cases h0 : t.1 = "0"
      · rw [if_pos h0]
        refine ⟨k + 1, hr1, ?_⟩
        rw [decide_eq_true h0] at fe
        have c2 : (sIf (cB (eOp fEq (eV 2) (eC (.str "0")))) (sRet (eC (.int 0))) sNil) (rsE a ws (.v (.str t.1)) .no) (S.set a (rdC T (k + 1) e)) = .rt (.val (.int 0)) (S.set a (rdC T (k + 1) e)) := by
          simp [fe]
        have hb : sumB [.v (.ref a), .v (.dic (wK ws)), .no, .no] S = .rt (.val (.int 0)) (S.set a (rdC T (k + 1) e)) := by
          unfold sumB
          refine (seq_of c1).trans ?_
          simp only [sSeq_eq, c2]
        rw [sum_eq]
        simp [hb]
      · rw [if_neg h0]
        rw [decide_eq_false h0] at fe
        have hw' : t.1 ∈ ws := by
          rcases List.mem_append.mp hm with q | q
          · exact q
          · exact absurd (List.mem_singleton.mp q) h0
        rw [if_pos hw']
        have lk := look_wK hw'
        have c2 : (sIf (cB (eOp fEq (eV 2) (eC (.str "0")))) (sRet (eC (.int 0))) sNil) (rsE a ws (.v (.str t.1)) .no) (S.set a (rdC T (k + 1) e)) = .nx (rsE a ws (.v (.str t.1)) .no) (S.set a (rdC T (k + 1) e)) := by
          simp [fe]
        have c3 : (sAsg (eDGetA 1 (eV 2)) (gN 3)) (rsE a ws (.v (.str t.1)) .no) (S.set a (rdC T (k + 1) e)) = .nx (rsE a ws (.v (.str t.1)) (.v (nd (2 ^ ws.idxOf t.1)))) (S.set a (rdC T (k + 1) e)) := by
          simp [lk]
        have rl : r.length < 4000 := by
          have := congrArg List.length hr1
          have := hT.1
          simp only [List.length_drop] at *
          omega
        have go := plus_go hT he (.v (.str t.1)) 4000 r (2 ^ ws.idxOf t.1) (k + 1) (S.set a (rdC T (k + 1) e)) h1 hr1 rl
        have hb : sumB [.v (.ref a), .v (.dic (wK ws)), .no, .no] S = sSeq (whL plC plB 4000) (sRet (eV 3)) (rsE a ws (.v (.str t.1)) (.v (nd (2 ^ ws.idxOf t.1)))) (S.set a (rdC T (k + 1) e)) := by
          unfold sumB
          exact (seq_of c1).trans ((seq_of c2).trans (seq_of c3))
        cases hp : plus ws e r (2 ^ ws.idxOf t.1) with
        | ok q =>
          rw [hp] at go
          obtain ⟨k', g1, g2⟩ := go
          rw [List.set_set] at g2
          refine ⟨k', g1, ?_⟩
          rw [seq_of g2] at hb
          rw [sum_eq]
          simp [hb]
        | error p =>
          rw [hp] at go
          obtain ⟨k', E', g2⟩ := go
          rw [List.set_set] at g2
          refine ⟨k', ?_⟩
          have hb : sumB [.v (.ref a), .v (.dic (wK ws)), .no, .no] S = .exc "BadText" (some (.int (p : Nat))) E' (S.set a (rdC T k' e)) := by
            rw [hb, sSeq_eq, g2]
          rw [sum_eq]
          simp [hb]
    · have nw : t.1 ∉ ws := fun q => hm (List.mem_append_left _ q)
      have n0 : t.1 ≠ "0" := fun q => hm (List.mem_append_right _ (List.mem_singleton.mpr q))
      rw [if_neg n0, if_neg nw]
      refine ⟨k, ?_⟩
      rw [set_self h, bad (by rw [hr]; exact hm), hr]
      rfl
end
end Fb
namespace Fb
open PySem L2 Mm Gf
theorem two_at0 (S : Sto) (x y : Cell) : (S ++ [x, y])[S.length]? = some x := by simp
theorem two_at1 (S : Sto) (x y : Cell) : (S ++ [x, y])[S.length + 1]? = some y := by simp
theorem two_set0 (S : Sto) (x y z : Cell) : (S ++ [x, y]).set S.length z = S ++ [z, y] := by simp
theorem two_set1 (S : Sto) (x y z : Cell) : (S ++ [x, y]).set (S.length + 1) z = S ++ [x, z] := by simp
def rK (ks : List (Str × Nat)) : List (Key × D) := ks.map fun p => (.inr p.1, .int (p.2 : Int))
def lk (ks : List (Str × Nat)) (w : Str) : Nat := ((ks.find? fun p => decide (p.1 = w)).map (·.2)).getD 0
theorem look_rK (w : Str) : ∀ ks : List (Str × Nat), lookK (rK ks) (.inr w) = ((ks.find? fun p => decide (p.1 = w)).map fun p => D.int (p.2 : Int))
  | [] => rfl
  | p :: ks => by
    have ih := look_rK w ks
    show ((((Sum.inr p.1 : Key), D.int (p.2 : Int)) :: rK ks).find? fun kv => decide (kv.1 = Sum.inr w)).map (·.2) = _
    rw [List.find?_cons, List.find?_cons]
    by_cases e : p.1 = w
    · have : decide ((Sum.inr p.1 : Key) = Sum.inr w) = true := decide_eq_true (by rw [e])
      rw [this, decide_eq_true e]
      rfl
    · have : decide ((Sum.inr p.1 : Key) = Sum.inr w) = false := decide_eq_false fun q => e (by cases q; rfl)
      rw [this, decide_eq_false e]
      exact ih
theorem look_rK_has (w : Str) (ks : List (Str × Nat)) : (lookK (rK ks) (.inr w)).isSome = decide (w ∈ ks.map (·.1)) := by
  rw [look_rK, Option.isSome_map, Bool.eq_iff_iff, List.find?_isSome]
  simp
theorem look_rK_get (w : Str) (ks : List (Str × Nat)) : (lookK (rK ks) (.inr w)).getD (.int 0) = nd (lk ks w) := by
  rw [look_rK]
  unfold lk
  cases ks.find? fun p => decide (p.1 = w) <;> rfl
theorem put_rK {w : Str} {ks : List (Str × Nat)} (h : w ∉ ks.map (·.1)) (v : Nat) : putD (rK ks) (.inr w) (.int (v : Int)) = rK (ks ++ [(w, v)]) := by
  unfold putD
  have : ((rK ks).any fun kv => decide (kv.1 = (Sum.inr w : Key))) = false := by
    rw [lookK_any, look_rK_has, decide_eq_false h]
  rw [this]
  simp [rK]
def stm (bw ws : List Str) (e : Nat) (ks : List (Str × Nat)) (r : List Tok) : Except Nat (Nat × List Tok) :=
  if hdS r ∈ bw.filter (fun w => !decide (w ∈ ks.map (·.1))) then (if hdS r.tail = "=" then rsum ws e r.tail.tail else .error (poS e r.tail)) else .error (poS e r)
def stms (bw ws : List Str) (e : Nat) : Nat → List Tok → List (Str × Nat) → Except Nat (List (Str × Nat))
  | 0, _, ks => .ok ks
  | n + 1, r, ks => match stm bw ws e ks r with
    | .error p => .error p
    | .ok q => if q.2 = [] then .ok (ks ++ [(hdS r, q.1)]) else if hdS q.2 = ";" then stms bw ws e n q.2.tail (ks ++ [(hdS r, q.1)]) else .error (poS e q.2)
def rsp (bw ws : List Str) (e : Nat) (T : List Tok) : Except Nat (List (Str × Nat)) := if T = [] then .ok [] else stms bw ws e 4000 T []
noncomputable abbrev reL : MS := sSeq (sAsg (eMeth "Reader" "take" m_Reader_take [] (eV 6) (aCons (mFrz (fLc (itL (eV 5)) (gN 11) (cB (eDInA true (eV 11) 7)) (eV 11) [11])) aNil)) (gN 9))
    (sSeq (sExpr (eMeth "Reader" "take" m_Reader_take [] (eV 6) (aCons (mFrz (fLst (aCons (eC (.str "=")) aNil))) aNil)))
    (sSeq (sDPutA 7 (eV 9) (eCall m_read_sum [] (aCons (eV 6) (aCons (eV 4) aNil))))
    (sSeq (sAsg (eOp fNe (eMeth "Reader" "ahead" m_Reader_ahead [] (eV 6) aNil) (eC (.str ""))) (gN 8))
    (sIf (cB (eV 8)) (sExpr (eMeth "Reader" "take" m_Reader_take [] (eV 6) (aCons (mFrz (fLst (aCons (eC (.str ";")) aNil))) aNil))) sNil))))
abbrev reE (zd sd bd ld : D) (bw ws : List Str) (a : Nat) (s8 s9 s10 s11 : Sl) : Envr := [.v zd, .v sd, .v bd, .v ld, .v (.dic (wK ws)), .v (.lst (bw.map D.str)), .v (.ref a), .v (.ref (a + 1)), s8, s9, s10, s11]
theorem tl_drop {T : List Tok} (k : Nat) : (T.drop k).tail = T.drop (k + 1) := by rw [List.tail_drop]
section
variable {T : List Tok} {e : Nat} {bw ws : List Str} {zd sd bd ld : D} {s10 : Sl}
theorem hd_nil {T : List Tok} (hT : TokOk T) (k : Nat) : hdS (T.drop k) = "" ↔ T.drop k = [] := by
  cases h : T.drop k with
  | nil => simp [hdS]
  | cons t r =>
    have := (hT.2 t (List.mem_of_mem_drop (h ▸ List.mem_cons_self))).2
    simp [hdS, this]
theorem more_ok (hT : TokOk T) {S : Sto} {a k : Nat} (h : S[a]? = some (rdC T k e)) (s8 s9 s10 s11 : Sl) : (sAsg (eOp fNe (eMeth "Reader" "ahead" m_Reader_ahead [] (eV 6) aNil) (eC (.str ""))) (gN 8)) (reE zd sd bd ld bw ws a s8 s9 s10 s11) S = .nx (reE zd sd bd ld bw ws a (.v (.bl (!decide (T.drop k = [])))) s9 s10 s11) S := by
  have ah := ahead_ok h hT.1
  have fe := fNe_str S (hd_ok hT k) strOk_empty
  have : decide (hdS (T.drop k) = "") = decide (T.drop k = []) := decide_eq_decide.mpr (hd_nil hT k)
  rw [this] at fe
  unfold rdC at h
  simp [h, rd_ahead, ah, fe]
theorem tk_in {S : Sto} {a k : Nat} {env : Envr} {m : ME} {xs : List Str} (h : S[a]? = some (rdC T k e)) (hT : T.length ≤ 3000) (h6 : env[6]? = some (.v (.ref a))) (hm : m env S = .ok (.lst (xs.map D.str)) S) (hx : hdS (T.drop k) ∈ xs) : eMeth "Reader" "take" m_Reader_take [] (eV 6) (aCons m aNil) env S = .ok (.str (hdS (T.drop k))) (S.set a (rdC T (k + 1) e)) := by
  have t1 := take_in h hT hx
  have h' := h
  unfold rdC at h'
  simp only [eMeth_eq, mGo_eq, eV_eq, h6, bind_ok', insOf_ref, h', if_true, rd_take, aCons_eq, aNil_eq, hm, List.append_nil, t1]
  rfl
theorem tk_no {S : Sto} {a k : Nat} {env : Envr} {m : ME} {xs : List Str} (h : S[a]? = some (rdC T k e)) (hT : T.length ≤ 3000) (h6 : env[6]? = some (.v (.ref a))) (hm : m env S = .ok (.lst (xs.map D.str)) S) (hx : hdS (T.drop k) ∉ xs) : eMeth "Reader" "take" m_Reader_take [] (eV 6) (aCons m aNil) env S = .exc "BadText" (some (.int (poS e (T.drop k) : Nat))) S := by
  have t1 := take_no h hT hx
  have h' := h
  unfold rdC at h'
  simp only [eMeth_eq, mGo_eq, eV_eq, h6, bind_ok', insOf_ref, h', if_true, rd_take, aCons_eq, aNil_eq, hm, List.append_nil, t1]
  rfl
theorem reL_go (hT : TokOk T) (he : ("" : Str) ∉ ws) (hw : ws.length ≤ 100) (hbw : bw.length ≤ 100) : ∀ (S : Sto) (k : Nat) (ks : List (Str × Nat)) (s8 s9 s11 : Sl), ks.length ≤ 90000 →
    match stm bw ws e ks (T.drop k) with
    | .error p => ∃ k' E', reL (reE zd sd bd ld bw ws S.length s8 s9 s10 .no) (S ++ [rdC T k e, .dic (rK ks)]) = .exc "BadText" (some (.int (p : Nat))) E' (S ++ [rdC T k' e, .dic (rK ks)])
    | .ok q => ∃ k', T.drop k' = q.2 ∧ (if q.2 = [] then ∃ s9' , reL (reE zd sd bd ld bw ws S.length s8 s9 s10 .no) (S ++ [rdC T k e, .dic (rK ks)]) = .nx (reE zd sd bd ld bw ws S.length (.v (.bl false)) s9' s10 .no) (S ++ [rdC T k' e, .dic (rK (ks ++ [(hdS (T.drop k), q.1)]))])
      else if hdS q.2 = ";" then ∃ s9', reL (reE zd sd bd ld bw ws S.length s8 s9 s10 .no) (S ++ [rdC T k e, .dic (rK ks)]) = .nx (reE zd sd bd ld bw ws S.length (.v (.bl true)) s9' s10 .no) (S ++ [rdC T (k' + 1) e, .dic (rK (ks ++ [(hdS (T.drop k), q.1)]))])
      else ∃ E', reL (reE zd sd bd ld bw ws S.length s8 s9 s10 .no) (S ++ [rdC T k e, .dic (rK ks)]) = .exc "BadText" (some (.int (poS e q.2 : Nat))) E' (S ++ [rdC T k' e, .dic (rK (ks ++ [(hdS (T.drop k), q.1)]))])) := fun S k ks s8 s9 s11 hk => by
  have h0 := two_at0 S (rdC T k e) (.dic (rK ks))
  have h1 := two_at1 S (rdC T k e) (.dic (rK ks))
  have z1 := szB_of (n := 1) (by omega)
  have lc : mFrz (fLc (itL (eV 5)) (gN 11) (cB (eDInA true (eV 11) 7)) (eV 11) [11]) (reE zd sd bd ld bw ws S.length s8 s9 s10 .no) (S ++ [rdC T k e, .dic (rK ks)]) = .ok (.lst ((bw.filter (fun w => !decide (w ∈ ks.map (·.1)))).map D.str)) (S ++ [rdC T k e, .dic (rK ks)]) := by
    have := flc_filt (mi := itL (eV 5)) (tt := cB (eDInA true (eV 11) 7)) (te := eV 11) (k := 11) (vs := [11]) (env := reE zd sd bd ld bw ws S.length s8 s9 s10 .no) (S := S ++ [rdC T k e, .dic (rK ks)]) (fun w => !decide (w ∈ ks.map (·.1))) bw (by simp) (by omega) fun y hy => ⟨by
      have lr := look_rK_has y ks
      simp only [wipeE, List.foldl, List.map, hideS, List.set, cB_eq, eDInA_eq, eV_eq, List.getElem?_cons_succ, List.getElem?_cons_zero, bind_ok', keyD_str, dicA_eq, dicOf_ref, h1, lr, if_true], by simp [wipeE, hideS]⟩
    rw [mFrz_eq, this]
    rfl
  have lit : ∀ (x : Str) (S1 : Sto) (env : Envr), mFrz (fLst (aCons (eC (.str x)) aNil)) env S1 = .ok (.lst ([x].map D.str)) S1 := fun x S1 env => by simp [z1]
  unfold stm
  by_cases c1 : hdS (T.drop k) ∈ bw.filter (fun w => !decide (w ∈ ks.map (·.1)))
  · rw [if_pos c1]
    have t1 := tk_in (env := reE zd sd bd ld bw ws S.length s8 s9 s10 .no) h0 hT.1 rfl lc c1
    rw [two_set0] at t1
    have b1 : sAsg (eMeth "Reader" "take" m_Reader_take [] (eV 6) (aCons (mFrz (fLc (itL (eV 5)) (gN 11) (cB (eDInA true (eV 11) 7)) (eV 11) [11])) aNil)) (gN 9) (reE zd sd bd ld bw ws S.length s8 s9 s10 .no) (S ++ [rdC T k e, .dic (rK ks)]) = .nx (reE zd sd bd ld bw ws S.length s8 (.v (.str (hdS (T.drop k)))) s10 .no) (S ++ [rdC T (k + 1) e, .dic (rK ks)]) := by
      rw [sAsg_eq, t1]
      rfl
    have h0' := two_at0 S (rdC T (k + 1) e) (.dic (rK ks))
    rw [tl_drop, tl_drop]
    by_cases c2 : hdS (T.drop (k + 1)) = "="
    · rw [if_pos c2]
      have t2 := tk_in (env := reE zd sd bd ld bw ws S.length s8 (.v (.str (hdS (T.drop k)))) s10 .no) (xs := ["="]) h0' hT.1 rfl (lit _ _ _) (List.mem_singleton.mpr c2)
      rw [two_set0] at t2
      have b2 : sExpr (eMeth "Reader" "take" m_Reader_take [] (eV 6) (aCons (mFrz (fLst (aCons (eC (.str "=")) aNil))) aNil)) (reE zd sd bd ld bw ws S.length s8 (.v (.str (hdS (T.drop k)))) s10 .no) (S ++ [rdC T (k + 1) e, .dic (rK ks)]) = .nx (reE zd sd bd ld bw ws S.length s8 (.v (.str (hdS (T.drop k)))) s10 .no) (S ++ [rdC T (k + 2) e, .dic (rK ks)]) := by
        rw [sExpr_eq, t2]
        rfl
      have h0'' := two_at0 S (rdC T (k + 2) e) (.dic (rK ks))
      have sm := sum_ok hT he hw h0''
      have e12 : k + 1 + 1 = k + 2 := rfl
      rw [e12]
      have head : reL (reE zd sd bd ld bw ws S.length s8 s9 s10 .no) (S ++ [rdC T k e, .dic (rK ks)]) = _ := (seq_of b1).trans (seq_of b2)
      rw [head]
      cases hs : rsum ws e (T.drop (k + 2)) with
      | error p =>
        rw [hs] at sm
        obtain ⟨k', sm⟩ := sm
        rw [two_set0] at sm
        refine ⟨k', reE zd sd bd ld bw ws S.length s8 (.v (.str (hdS (T.drop k)))) s10 .no, ?_⟩
        rw [sSeq_eq, sDPutA_eq]
        simp only [eCall_eq, aCons_eq, aNil_eq, eV_eq, List.getElem?_cons_succ, List.getElem?_cons_zero, bind_ok', List.append_nil, sm, out_exc', bind_exc']
      | ok q =>
        rw [hs] at sm
        obtain ⟨k', sd', sm⟩ := sm
        rw [two_set0] at sm
        refine ⟨k', sd', ?_⟩
        have nk : hdS (T.drop k) ∉ ks.map (·.1) := by
          have := (List.mem_filter.mp c1).2
          simpa using this
        have zk := szB_of (n := (rK ks).length + 1) (by unfold rK; rw [List.length_map]; omega)
        have b3 : sDPutA 7 (eV 9) (eCall m_read_sum [] (aCons (eV 6) (aCons (eV 4) aNil))) (reE zd sd bd ld bw ws S.length s8 (.v (.str (hdS (T.drop k)))) s10 .no) (S ++ [rdC T (k + 2) e, .dic (rK ks)]) = .nx (reE zd sd bd ld bw ws S.length s8 (.v (.str (hdS (T.drop k)))) s10 .no) (S ++ [rdC T k' e, .dic (rK (ks ++ [(hdS (T.drop k), q.1)]))]) := by
          rw [sDPutA_eq]
          have h1' := two_at1 S (rdC T k' e) (.dic (rK ks))
          simp only [eCall_eq, aCons_eq, aNil_eq, eV_eq, List.getElem?_cons_succ, List.getElem?_cons_zero, bind_ok', List.append_nil, sm, out_ok', r_val, hasA_eq, if_true, keyD_str, h1', zk, two_set1, put_rK nk]
        have h03 := two_at0 S (rdC T k' e) (.dic (rK (ks ++ [(hdS (T.drop k), q.1)])))
        have b4 := more_ok (zd := zd) (sd := sd) (bd := bd) (ld := ld) (bw := bw) (ws := ws) hT h03 s8 (.v (.str (hdS (T.drop k)))) s10 .no
        rw [sd'] at b4
        have head2 := (seq_of b3).trans (seq_of (b := sIf (cB (eV 8)) (sExpr (eMeth "Reader" "take" m_Reader_take [] (eV 6) (aCons (mFrz (fLst (aCons (eC (.str ";")) aNil))) aNil))) sNil) b4)
        rw [head2]
        by_cases c3 : q.2 = []
        · rw [if_pos c3, decide_eq_true c3]
          exact ⟨.v (.str (hdS (T.drop k))), rfl⟩
        · rw [if_neg c3, decide_eq_false c3, Bool.not_false]
          by_cases c4 : hdS q.2 = ";"
          · rw [if_pos c4]
            have t3 := tk_in (env := reE zd sd bd ld bw ws S.length (.v (.bl true)) (.v (.str (hdS (T.drop k)))) s10 .no) (xs := [";"]) h03 hT.1 rfl (lit _ _ _) (List.mem_singleton.mpr (by rw [sd']; exact c4))
            rw [two_set0] at t3
            refine ⟨.v (.str (hdS (T.drop k))), ?_⟩
            show (sExpr _) _ _ = _
            rw [sExpr_eq, t3]
            rfl
          · rw [if_neg c4]
            have t3 := tk_no (env := reE zd sd bd ld bw ws S.length (.v (.bl true)) (.v (.str (hdS (T.drop k)))) s10 .no) (xs := [";"]) h03 hT.1 rfl (lit _ _ _) (fun q => c4 (by rw [sd'] at q; exact List.mem_singleton.mp q))
            refine ⟨reE zd sd bd ld bw ws S.length (.v (.bl true)) (.v (.str (hdS (T.drop k)))) s10 .no, ?_⟩
            show (sExpr _) _ _ = _
            rw [sExpr_eq, t3, sd']
            rfl
    · rw [if_neg c2]
      have t2 := tk_no (env := reE zd sd bd ld bw ws S.length s8 (.v (.str (hdS (T.drop k)))) s10 .no) (xs := ["="]) h0' hT.1 rfl (lit _ _ _) (fun q => c2 (List.mem_singleton.mp q))
      refine ⟨k + 1, reE zd sd bd ld bw ws S.length s8 (.v (.str (hdS (T.drop k)))) s10 .no, (seq_of b1).trans ?_⟩
      rw [sSeq_eq, sExpr_eq, t2]
      rfl
  · rw [if_neg c1]
    have t1 := tk_no (env := reE zd sd bd ld bw ws S.length s8 s9 s10 .no) h0 hT.1 rfl lc c1
    refine ⟨k, reE zd sd bd ld bw ws S.length s8 s9 s10 .no, ?_⟩
    unfold reL
    rw [sSeq_eq, sAsg_eq, t1]
    rfl
end
end Fb
namespace Fb
open PySem L2 Mm Gf
def digs (k : Nat) : List Nat := (Str.ofString (k : Int).repr).cps.toList
theorem digs_ok : ∀ k, k < 13 → (digs k).all al = true ∧ digs k ≠ [] ∧ (∀ c ∈ digs k, c ∉ small.cps.toList) := by
  intro k hk
  have : ∀ k : Fin 13, (digs k.val).all al = true ∧ digs k.val ≠ [] ∧ (∀ c ∈ digs k.val, c ∉ small.cps.toList) := by decide +kernel
  exact this ⟨k, hk⟩
theorem digs_inj : ∀ k j, k < 13 → j < 13 → digs k = digs j → k = j := by
  intro k j hk hj
  have : ∀ k j : Fin 13, digs k.val = digs j.val → k.val = j.val := by decide +kernel
  exact this ⟨k, hk⟩ ⟨j, hj⟩
theorem small_al : ∀ c ∈ small.cps.toList, al c = true := by decide +kernel
theorem name_small {x : Str} (h : nameB x = true) : ∀ c ∈ x.cps.toList, c ∈ small.cps.toList := by
  unfold nameB at h
  simp only [Bool.and_eq_true, decide_eq_true_eq, List.all_eq_true] at h
  exact h.2
theorem wd_cps (x : Str) (k : Nat) : (wd x k).cps.toList = x.cps.toList ++ digs k := by
  unfold wd digs
  show (x.cps ++ _).toList = _
  rw [Array.toList_append]
theorem Str_ext {x y : Str} (h : x.cps.toList = y.cps.toList) : x = y := by
  cases x; cases y
  congr 1
  exact Array.toList_inj.mp h
theorem tw_app (p : Nat → Bool) : ∀ (xs ys : List Nat), (∀ c ∈ xs, p c = true) → ys.takeWhile p = [] → (xs ++ ys).takeWhile p = xs
  | [], ys, _, h => h
  | x :: xs, ys, hx, h => by
    rw [List.cons_append, List.takeWhile_cons, hx x List.mem_cons_self, if_pos rfl, tw_app p xs ys (fun c hc => hx c (List.mem_cons_of_mem _ hc)) h]
theorem wd_inj {x y : Str} (hx : nameB x = true) (hy : nameB y = true) {k j : Nat} (hk : k < 13) (hj : j < 13) (h : wd x k = wd y j) : x = y ∧ k = j := by
  have h := congrArg (fun s : Str => s.cps.toList) h
  simp only [wd_cps] at h
  have tw : ∀ k, k < 13 → (digs k).takeWhile (fun c => decide (c ∈ small.cps.toList)) = [] := fun k hk => by
    obtain ⟨_, ne, no⟩ := digs_ok k hk
    cases e : digs k with
    | nil => exact absurd e ne
    | cons c r =>
      rw [List.takeWhile_cons, decide_eq_false (no c (by rw [e]; exact List.mem_cons_self))]
      rfl
  have a1 := tw_app (fun c => decide (c ∈ small.cps.toList)) x.cps.toList (digs k) (fun c hc => decide_eq_true (name_small hx c hc)) (tw k hk)
  have a2 := tw_app (fun c => decide (c ∈ small.cps.toList)) y.cps.toList (digs j) (fun c hc => decide_eq_true (name_small hy c hc)) (tw j hj)
  rw [h, a2] at a1
  rw [← a1] at h
  exact ⟨(Str_ext a1).symm, digs_inj k j hk hj (List.append_cancel_left h)⟩
theorem wds_nd {l : List (Str × Nat)} (h : ∀ p ∈ l, nameB p.1 = true ∧ p.2 ≤ 12) (nd : (nms l).Nodup) : (wdsOf l).Nodup := by
  unfold wdsOf
  unfold List.Nodup
  rw [List.pairwise_flatMap]
  constructor
  · intro p hp
    obtain ⟨h1, h2⟩ := h p hp
    refine List.pairwise_map.mpr ?_
    refine List.Pairwise.imp_of_mem ?_ List.nodup_range
    intro a b ha hb ne e
    have ha := List.mem_range.mp ha
    have hb := List.mem_range.mp hb
    exact ne (wd_inj h1 h1 (by omega) (by omega) e).2
  · have nd : l.Pairwise fun a b => a.1 ≠ b.1 := List.pairwise_map.mp nd
    refine List.Pairwise.imp_of_mem ?_ nd
    intro p q hp hq ne x hx y hy e
    obtain ⟨k, hk, rfl⟩ := List.mem_map.mp hx
    obtain ⟨j, hj, rfl⟩ := List.mem_map.mp hy
    have hk := List.mem_range.mp hk
    have hj := List.mem_range.mp hj
    obtain ⟨h1, h2⟩ := h p hp
    obtain ⟨h3, h4⟩ := h q hq
    exact ne (wd_inj h1 h3 (by omega) (by omega) e).1
def Wdy (x : Str) : Prop := x.cps.toList.all al = true ∧ x.cps.toList ≠ []
theorem wds_wdy {l : List (Str × Nat)} (h : ∀ p ∈ l, nameB p.1 = true ∧ p.2 ≤ 12) : ∀ x ∈ wdsOf l, Wdy x := fun x hx => by
  obtain ⟨p, hp, hx⟩ := List.mem_flatMap.mp hx
  obtain ⟨k, hk, rfl⟩ := List.mem_map.mp hx
  have hk := List.mem_range.mp hk
  obtain ⟨h1, h2⟩ := h p hp
  obtain ⟨d1, d2, _⟩ := digs_ok k (by omega)
  unfold Wdy
  rw [wd_cps, List.all_append, d1, Bool.and_true]
  exact ⟨List.all_eq_true.mpr fun c hc => small_al c (name_small h1 c hc), by simp [d2]⟩
theorem Wdy.ne {x : Str} (h : Wdy x) : x ≠ "" := fun e => h.2 (by rw [e]; decide +kernel)
theorem sideB_wds {l : List (Str × Nat)} (h : sideB l = true) : (wdsOf l).Nodup ∧ (∀ x ∈ wdsOf l, Wdy x) := by
  obtain ⟨a, b, _⟩ := sideB_ok h
  exact ⟨wds_nd a b, wds_wdy a⟩
theorem berth_names {bx ln : Nat} (hb : bx ≤ 12) (hl : ln ≤ 12) : ∀ p ∈ [(("box" : Str), bx), ("lane", ln)], nameB p.1 = true ∧ p.2 ≤ 12 := fun p hp => by
  have n1 : nameB "box" = true := by decide +kernel
  have n2 : nameB "lane" = true := by decide +kernel
  simp only [List.mem_cons, List.not_mem_nil, or_false] at hp
  rcases hp with rfl | rfl
  · exact ⟨n1, hb⟩
  · exact ⟨n2, hl⟩
theorem bws_wds {bx ln : Nat} (hb : bx ≤ 12) (hl : ln ≤ 12) : (bws bx ln).Nodup ∧ (∀ x ∈ bws bx ln, Wdy x) := by
  have nd : (nms [(("box" : Str), bx), ("lane", ln)]).Nodup := by
    have : (["box", "lane"] : List Str).Nodup := by decide +kernel
    exact this
  exact ⟨wds_nd (berth_names hb hl) nd, wds_wdy (berth_names hb hl)⟩
theorem plus_len (ws : List Str) (e : Nat) : ∀ (n : Nat) (r : List Tok) (v : Nat) (q : Nat × List Tok), r.length ≤ n → plus ws e r v = .ok q → q.2.length ≤ r.length
  | _, [], v, q, _, h => by
    unfold plus at h
    cases h
    exact Nat.le_refl _
  | _, [t], v, q, _, h => by
    unfold plus at h
    split at h
    · cases h
    · cases h
      exact Nat.le_refl _
  | 0, t :: u :: r, v, q, hn, h => by simp at hn
  | n + 1, t :: u :: r, v, q, hn, h => by
    unfold plus at h
    split at h
    · split at h
      · simp only [List.length_cons] at hn
        have := plus_len ws e n r _ q (by omega) h
        simp only [List.length_cons]
        omega
      · cases h
    · cases h
      exact Nat.le_refl _
theorem rsum_len {ws : List Str} {e : Nat} {r : List Tok} {q : Nat × List Tok} (h : rsum ws e r = .ok q) : q.2.length ≤ r.length := by
  cases r with
  | nil => cases h
  | cons t r =>
    rw [rsum_cons] at h
    split at h
    · cases h
      simp
    · split at h
      · have := plus_len ws e r.length r _ q (Nat.le_refl _) h
        simp only [List.length_cons]
        omega
      · cases h
theorem stm_len {bw ws : List Str} {e : Nat} {ks : List (Str × Nat)} {r : List Tok} {q : Nat × List Tok} (hb : ("" : Str) ∉ bw) (h : stm bw ws e ks r = .ok q) : q.2.length + 2 ≤ r.length := by
  unfold stm at h
  split at h
  · rename_i c1
    split at h
    · rename_i c2
      have l := rsum_len h
      cases r with
      | nil => exact absurd (List.mem_filter.mp c1).1 hb
      | cons t r =>
        cases r with
        | nil => exact absurd c2 (show ¬ hdS ([] : List Tok) = "=" by decide +kernel)
        | cons u r =>
          simp only [List.tail_cons] at l
          simp only [List.length_cons]
          omega
    · cases h
  · cases h
section
variable {T : List Tok} {e : Nat} {bw ws : List Str} {zd sd bd ld : D} {s10 : Sl}
theorem stms_go (hT : TokOk T) (he : ("" : Str) ∉ ws) (hw : ws.length ≤ 100) (hbw : bw.length ≤ 100) (heb : ("" : Str) ∉ bw) (S : Sto) : ∀ (n k : Nat) (ks : List (Str × Nat)) (s9 : Sl), (T.drop k).length < n → ks.length + (T.drop k).length ≤ 90000 →
    match stms bw ws e n (T.drop k) ks with
    | .ok ks' => ∃ k' s9', whL (cB (eV 8)) reL n (reE zd sd bd ld bw ws S.length (.v (.bl true)) s9 s10 .no) (S ++ [rdC T k e, .dic (rK ks)]) = .nx (reE zd sd bd ld bw ws S.length (.v (.bl false)) s9' s10 .no) (S ++ [rdC T k' e, .dic (rK ks')])
    | .error p => ∃ k' ks' E', whL (cB (eV 8)) reL n (reE zd sd bd ld bw ws S.length (.v (.bl true)) s9 s10 .no) (S ++ [rdC T k e, .dic (rK ks)]) = .exc "BadText" (some (.int (p : Nat))) E' (S ++ [rdC T k' e, .dic (rK ks')])
  | 0, k, ks, s9, h, _ => absurd h (Nat.not_lt_zero _)
  | n + 1, k, ks, s9, h, hk => by
    have b := reL_go (zd := zd) (sd := sd) (bd := bd) (ld := ld) (s10 := s10) (bw := bw) (ws := ws) (e := e) hT he hw hbw S k ks (.v (.bl true)) s9 .no (by omega)
    have ct : cB (eV 8) (reE zd sd bd ld bw ws S.length (.v (.bl true)) s9 s10 .no) (S ++ [rdC T k e, .dic (rK ks)]) = .ok true (S ++ [rdC T k e, .dic (rK ks)]) := rfl
    have st : whL (cB (eV 8)) reL (n + 1) (reE zd sd bd ld bw ws S.length (.v (.bl true)) s9 s10 .no) (S ++ [rdC T k e, .dic (rK ks)]) = (match reL (reE zd sd bd ld bw ws S.length (.v (.bl true)) s9 s10 .no) (S ++ [rdC T k e, .dic (rK ks)]) with
      | .nx e S2 => whL (cB (eV 8)) reL n e S2
      | .ct e S2 => whL (cB (eV 8)) reL n e S2
      | .bk e S2 => .nx e S2
      | o => o) := by
      conv => lhs; unfold whL
      rw [ct, out_ok', if_pos rfl]
      all_goals rfl
    rw [st]
    unfold stms
    cases hs : stm bw ws e ks (T.drop k) with
    | error p =>
      rw [hs] at b
      obtain ⟨k', E', b⟩ := b
      refine ⟨k', ks, E', ?_⟩
      rw [b]
    | ok q =>
      rw [hs] at b
      obtain ⟨k', dq, b⟩ := b
      have ql := stm_len heb hs
      by_cases c1 : q.2 = []
      · rw [if_pos c1] at b
        obtain ⟨s9', b⟩ := b
        dsimp only
        rw [if_pos c1]
        refine ⟨k', s9', ?_⟩
        rw [b]
        obtain ⟨m, rfl⟩ : ∃ m, n = m + 1 := ⟨n - 1, by omega⟩
        rfl
      · rw [if_neg c1] at b
        dsimp only
        rw [if_neg c1]
        by_cases c2 : hdS q.2 = ";"
        · rw [if_pos c2] at b ⊢
          obtain ⟨s9', b⟩ := b
          have dq' : q.2.tail = T.drop (k' + 1) := by rw [← dq, tl_drop]
          have tl : q.2.tail.length ≤ q.2.length := by rw [List.length_tail]; omega
          have ih := stms_go hT he hw hbw heb S n (k' + 1) (ks ++ [(hdS (T.drop k), q.1)]) s9' (by rw [← dq']; omega) (by rw [← dq', List.length_append]; simp; omega)
          rw [← dq'] at ih
          rw [b]
          exact ih
        · rw [if_neg c2] at b ⊢
          obtain ⟨E', b⟩ := b
          refine ⟨k', ks ++ [(hdS (T.drop k), q.1)], E', ?_⟩
          rw [b]
end
end Fb
namespace Fb
open PySem L2 Mm Gf
theorem kvs_go (f : Nat → D) : ∀ (ws : List Str) (n : Nat) (acc : List (Key × D)), ws.Nodup → (∀ w ∈ ws, lookK acc (.inr w) = none) → kvsOf ((ws.zipIdx n).map fun p => .tup [.str p.1, f p.2]) acc = some (acc ++ (ws.zipIdx n).map fun p => ((.inr p.1 : Key), f p.2))
  | [], n, acc, _, _ => by simp [kvsOf]
  | w :: ws, n, acc, nd, h => by
    obtain ⟨nw, nd⟩ := List.nodup_cons.mp nd
    have h0 := h w List.mem_cons_self
    have p : putD acc (.inr w) (f n) = acc ++ [((.inr w : Key), f n)] := by
      unfold putD
      rw [lookK_any, h0]
      rfl
    have ih := kvs_go f ws (n + 1) (acc ++ [((.inr w : Key), f n)]) nd fun x hx => by
      rw [lookK_snoc _ _ _ _ h0]
      have ne : ¬ (Sum.inr x : Key) = Sum.inr w := fun q => by cases q; exact nw hx
      rw [if_neg ne]
      exact h x (List.mem_cons_of_mem _ hx)
    rw [List.zipIdx_cons, List.map_cons, List.map_cons]
    show (match keyD (.str w) with | some kk => kvsOf _ (putD acc kk (f n)) | none => none) = _
    rw [keyD_str]
    show kvsOf _ (putD acc (.inr w) (f n)) = _
    rw [p, ih, List.append_assoc]
    rfl
theorem toks_pos : ∀ (n : Nat) (cs : List Nat) (p : Nat), cs.length ≤ n → (∀ c ∈ cs, c < 0x110000) → ∀ t ∈ toks cs p, PyData.strOk t.1 = true ∧ t.1 ≠ ""
  | _, [], p, _, _ => by simp [toks]
  | 0, c :: cs, p, h, _ => by simp at h
  | n + 1, c :: cs, p, h, hc => by
    simp only [List.length_cons] at h
    have dw := dw_le al cs
    have hcs : ∀ x ∈ cs, x < 0x110000 := fun x hx => hc x (List.mem_cons_of_mem _ hx)
    have ne : ∀ r : List Nat, (⟨(c :: r).toArray⟩ : Str) ≠ "" := fun r e => by
      have := congrArg (fun s : Str => s.cps.toList) e
      have e0 : (("" : Str).cps.toList) = [] := by decide +kernel
      simp only [e0] at this
      cases this
    have ok : ∀ r : List Nat, (∀ x ∈ r, x < 0x110000) → PyData.strOk ⟨(c :: r).toArray⟩ = true := fun r hr => by
      unfold PyData.strOk
      rw [← Array.all_toList, List.all_eq_true]
      intro x hx
      rcases List.mem_cons.mp hx with rfl | hx
      · exact decide_eq_true (hc _ List.mem_cons_self)
      · exact decide_eq_true (hr x hx)
    intro t ht
    rw [toks] at ht
    split at ht
    · rcases List.mem_cons.mp ht with rfl | ht
      · exact ⟨ok _ fun x hx => hcs x (List.takeWhile_sublist al |>.subset hx), ne _⟩
      · exact toks_pos n _ _ (by omega) (fun x hx => hcs x (List.dropWhile_sublist al |>.subset hx)) t ht
    · split at ht
      · exact toks_pos n _ _ (by omega) hcs t ht
      · rcases List.mem_cons.mp ht with rfl | ht
        · exact ⟨ok [] (by simp), ne []⟩
        · exact toks_pos n _ _ (by omega) hcs t ht
theorem toks_ok {z : Str} (hz : z.length ≤ 3000) (hok : PyData.strOk z = true) : TokOk (toks z.cps.toList 0) := by
  have sl : z.cps.toList.length = z.length := by simp [Str.length]
  have := toks_len _ z.cps.toList 0 (Nat.le_refl _)
  refine ⟨by omega, toks_pos _ _ _ (Nat.le_refl _) ?_⟩
  unfold PyData.strOk at hok
  rw [← Array.all_toList, List.all_eq_true] at hok
  exact fun c hc => of_decide_eq_true (hok c hc)
theorem init_ok {S : Sto} {z : Str} {a : Nat} (hz : z.length ≤ 3000) (hok : PyData.strOk z = true) (h : S[a]? = some (.ins "Reader" [])) : m_ReaderU_initU [.ref a, .str z] S = .ok (.val .non) (S.set a (rdC (toks z.cps.toList 0) 0 z.length)) := by
  have pp := parts_ok (S := S) hz hok
  have p1 : ∀ a : D, putFD "found" a ([] : List (Str × D)) = ([("found", a)] : List (Str × D)) := fun _ => rfl
  have p2 : ∀ a c : D, putFD "step" c ([("found", a)] : List (Str × D)) = ([("found", a), ("step", c)] : List (Str × D)) := fun _ _ => rfl
  have p3 : ∀ a b c : D, putFD "end" c ([("found", a), ("step", b)] : List (Str × D)) = ([("found", a), ("step", b), ("end", c)] : List (Str × D)) := fun _ _ _ => rfl
  have L := fun S => len_str S hz
  have lt := (List.getElem?_eq_some_iff.mp h).1
  have s1 := fun y => set_at h y
  simp [-List.getElem?_set_self, m_ReaderU_initU, pp, h, s1, p1, p2, p3, L, rdC, rdF]
  rfl
section
variable {l : List (Str × Nat)} {S : Sto}
theorem worths_ok {zd sd bd ld : D} (hB : sideB l = true) (hz : l.length ≤ 1000) (hsd : sd = .lst (l.map dS)) : eDc (itES (aCons (eCall m_words_of [] (aCons (eV 1) aNil)) aNil)) (gT (gNC (gN 10) (gNC (gN 9) gN0))) cYes (eV 9) (eOp iShl (eC (.int 1)) (eV 10)) [10, 9] [.v zd, .v sd, .v bd, .v ld, .no, .no, .no, .no, .no, .no, .no, .no] S = .ok (.dic (wK (wdsOf l))) S := by
  subst hsd
  obtain ⟨w1, w2, w3⟩ := sp_words (S := S) hB hz
  obtain ⟨nds, _⟩ := sideB_wds hB
  have it : itES (aCons (eCall m_words_of [] (aCons (eV 1) aNil)) aNil) [.v zd, .v (.lst (l.map dS)), .v bd, .v ld, .no, .no, .no, .no, .no, .no, .no, .no] S = .ok ((wdsOf l).zipIdx.map fun p => .tup [nd p.2, .str p.1]) S := by
    have e := enum_zip D.str (wdsOf l) 0
    simp [w1, e]
  have lc := lc_all (g := gT (gNC (gN 10) (gNC (gN 9) gN0))) (te := eKV (eV 9) (eOp iShl (eC (.int 1)) (eV 10))) (env := wipeE [.v zd, .v (.lst (l.map dS)), .v bd, .v ld, .no, .no, .no, .no, .no, .no, .no, .no] [10, 9]) (S := S) (fun p : Str × Nat => D.tup [nd p.2, .str p.1]) (fun p : Str × Nat => D.tup [.str p.1, .int ((2 ^ p.2 : Nat) : Int)]) (wdsOf l).zipIdx fun y hy => ⟨_, rfl, by
    have hlt := (List.mem_zipIdx' hy).1
    have pb := powB_nat (i := 1) (by decide) y.2 (by omega)
    simp [wipeE, hideS, eKV, pb]⟩
  have kv := kvs_go (fun i => .int ((2 ^ i : Nat) : Int)) (wdsOf l) 0 [] nds fun _ _ => rfl
  rw [eDc_eq, it, bind_ok', lc, bind_ok']
  unfold finDc
  rw [kv, List.nil_append]
  have len : decide (((wdsOf l).zipIdx.map fun p : Str × Nat => ((.inr p.1 : Key), D.int ((2 ^ p.2 : Nat) : Int))).length ≤ 1000) = true := decide_eq_true (by
    rw [List.length_map, List.length_zipIdx]
    omega)
  show (if decide _ = true then _ else _) = _
  rw [if_pos len]
  rfl
theorem exc_of {a b : MS} {e e1 : Envr} {S S1 : Sto} {c : Str} {p : Option D} (h : a e S = .exc c p e1 S1) : sSeq a b e S = .exc c p e1 S1 := by
  rw [sSeq_eq, h]
noncomputable def rsB : MS := sSeq (sExpr (eCall m_need_sides [] (aCons (eV 1) aNil)))
    (sSeq (sAsg (eDc (itES (aCons (eCall m_words_of [] (aCons (eV 1) aNil)) aNil)) (gT (gNC (gN 10) (gNC (gN 9) gN0))) cYes (eV 9) (eOp iShl (eC (.int 1)) (eV 10)) [10, 9]) (gN 4))
    (sSeq (sAsg (eCall m_words_of [] (aCons (mFrz (fLst (aCons (eTup (aCons (eC (.str "box")) (aCons (eV 2) aNil))) (aCons (eTup (aCons (eC (.str "lane")) (aCons (eV 3) aNil))) aNil)))) aNil)) (gN 5))
    (sSeq (sAsg (eNewC "Reader" m_ReaderU_initU [] (aCons (eV 0) aNil)) (gN 6))
    (sSeq (sCell 7 fDic0)
    (sSeq (sAsg (eOp fNe (eMeth "Reader" "ahead" m_Reader_ahead [] (eV 6) aNil) (eC (.str ""))) (gN 8))
    (sSeq (whL (cB (eV 8)) reL 4000)
    (sRet (eCB fTupOf (aCons (mFrz (fLc (itL (eV 5)) (gN 9) cYes (eDGet2A 7 (eV 9) (eC (.int 0))) [9])) aNil)))))))))
theorem rs_eq : m_read_spread = mFn 12 rsB := rfl
def readOf (l : List (Str × Nat)) (bx ln : Nat) (z : Str) : Except Nat (List (Str × Nat)) := rsp (bws bx ln) (wdsOf l) z.length (toks z.cps.toList 0)
theorem read_ok (hB : sideB l = true) (hz : l.length ≤ 1000) {z : Str} (hzl : z.length ≤ 3000) (hok : PyData.strOk z = true) {bx ln : Nat} (hb : bx ≤ 12) (hln : ln ≤ 12) (S : Sto) :
    match readOf l bx ln z with
    | .ok ks => ∃ x y, m_read_spread [.str z, .lst (l.map dS), nd bx, nd ln] S = .ok (.val (.tup (nl ((bws bx ln).map (lk ks))))) (S ++ [x, y])
    | .error p => ∃ x y, m_read_spread [.str z, .lst (l.map dS), nd bx, nd ln] S = .exc "BadText" (some (.int (p : Nat))) (S ++ [x, y]) := by
  obtain ⟨h1, _, _⟩ := sideB_ok hB
  have N := need_sides S l hz fun p hp => by have := (Tx.name (h1 p hp).1).2; exact Nat.le_trans this (by omega)
  rw [if_pos hB] at N
  obtain ⟨w1, w2, w3⟩ := sp_words (S := S) hB hz
  obtain ⟨b1, b2⟩ := bws_ok (S := S) (bx := bx) (ln := ln) hb hln
  have bl := bws_len bx ln
  have T := toks_ok hzl hok
  obtain ⟨_, ww⟩ := sideB_wds hB
  obtain ⟨_, bw⟩ := bws_wds hb hln
  have ew : ("" : Str) ∉ wdsOf l := fun q => (ww _ q).ne rfl
  have eb : ("" : Str) ∉ bws bx ln := fun q => (bw _ q).ne rfl
  have two := szB_of (n := 2) (by omega)
  have c1 : (sExpr (eCall m_need_sides [] (aCons (eV 1) aNil))) [.v (.str z), .v (.lst (l.map dS)), .v (nd bx), .v (nd ln), .no, .no, .no, .no, .no, .no, .no, .no] S = .nx [.v (.str z), .v (.lst (l.map dS)), .v (nd bx), .v (nd ln), .no, .no, .no, .no, .no, .no, .no, .no] S := by simp [N]
  have c2 : (sAsg (eDc (itES (aCons (eCall m_words_of [] (aCons (eV 1) aNil)) aNil)) (gT (gNC (gN 10) (gNC (gN 9) gN0))) cYes (eV 9) (eOp iShl (eC (.int 1)) (eV 10)) [10, 9]) (gN 4)) [.v (.str z), .v (.lst (l.map dS)), .v (nd bx), .v (nd ln), .no, .no, .no, .no, .no, .no, .no, .no] S = .nx [.v (.str z), .v (.lst (l.map dS)), .v (nd bx), .v (nd ln), .v (.dic (wK (wdsOf l))), .no, .no, .no, .no, .no, .no, .no] S := by
    rw [sAsg_eq, worths_ok hB hz rfl]
    rfl
  have c3 : (sAsg (eCall m_words_of [] (aCons (mFrz (fLst (aCons (eTup (aCons (eC (.str "box")) (aCons (eV 2) aNil))) (aCons (eTup (aCons (eC (.str "lane")) (aCons (eV 3) aNil))) aNil)))) aNil)) (gN 5)) [.v (.str z), .v (.lst (l.map dS)), .v (nd bx), .v (nd ln), .v (.dic (wK (wdsOf l))), .no, .no, .no, .no, .no, .no, .no] S = .nx [.v (.str z), .v (.lst (l.map dS)), .v (nd bx), .v (nd ln), .v (.dic (wK (wdsOf l))), .v (.lst ((bws bx ln).map D.str)), .no, .no, .no, .no, .no, .no] S := by
    simp [b1, two]
  have c4 : (sAsg (eNewC "Reader" m_ReaderU_initU [] (aCons (eV 0) aNil)) (gN 6)) [.v (.str z), .v (.lst (l.map dS)), .v (nd bx), .v (nd ln), .v (.dic (wK (wdsOf l))), .v (.lst ((bws bx ln).map D.str)), .no, .no, .no, .no, .no, .no] S = .nx [.v (.str z), .v (.lst (l.map dS)), .v (nd bx), .v (nd ln), .v (.dic (wK (wdsOf l))), .v (.lst ((bws bx ln).map D.str)), .v (.ref S.length), .no, .no, .no, .no, .no] (S ++ [rdC (toks z.cps.toList 0) 0 z.length]) := by
    have i := init_ok (S := S ++ [.ins "Reader" []]) (a := S.length) hzl hok (by simp)
    have e : (S ++ [Cell.ins "Reader" []]).set S.length (rdC (toks z.cps.toList 0) 0 z.length) = S ++ [rdC (toks z.cps.toList 0) 0 z.length] := by simp
    rw [e] at i
    simp [i]
  have c5 : (sCell 7 fDic0) [.v (.str z), .v (.lst (l.map dS)), .v (nd bx), .v (nd ln), .v (.dic (wK (wdsOf l))), .v (.lst ((bws bx ln).map D.str)), .v (.ref S.length), .no, .no, .no, .no, .no] (S ++ [rdC (toks z.cps.toList 0) 0 z.length]) = .nx (reE (.str z) (.lst (l.map dS)) (nd bx) (nd ln) (bws bx ln) (wdsOf l) S.length .no .no .no .no) (S ++ [rdC (toks z.cps.toList 0) 0 z.length, .dic []]) := by
    simp
  have c6 := more_ok (e := z.length) (zd := .str z) (sd := .lst (l.map dS)) (bd := nd bx) (ld := nd ln) (bw := bws bx ln) (ws := wdsOf l) T (two_at0 S (rdC (toks z.cps.toList 0) 0 z.length) (.dic [])) .no .no .no .no
  rw [List.drop_zero] at c6
  have run : rsB [.v (.str z), .v (.lst (l.map dS)), .v (nd bx), .v (nd ln), .no, .no, .no, .no, .no, .no, .no, .no] S = _ := (seq_of c1).trans ((seq_of c2).trans ((seq_of c3).trans ((seq_of c4).trans ((seq_of c5).trans (seq_of c6)))))
  have last : ∀ (ks : List (Str × Nat)) (s8 s9 : Sl) (x : Cell), sRet (eCB fTupOf (aCons (mFrz (fLc (itL (eV 5)) (gN 9) cYes (eDGet2A 7 (eV 9) (eC (.int 0))) [9])) aNil)) (reE (.str z) (.lst (l.map dS)) (nd bx) (nd ln) (bws bx ln) (wdsOf l) S.length s8 s9 .no .no) (S ++ [x, .dic (rK ks)]) = .rt (.val (.tup (nl ((bws bx ln).map (lk ks))))) (S ++ [x, .dic (rK ks)]) := fun ks s8 s9 x => by
    have a1 := two_at1 S x (.dic (rK ks))
    have f := flcG (mi := itL (eV 5)) (te := eDGet2A 7 (eV 9) (eC (.int 0))) (g := gN 9) (vs := [9]) (env := reE (.str z) (.lst (l.map dS)) (nd bx) (nd ln) (bws bx ln) (wdsOf l) S.length s8 s9 .no .no) (S := S ++ [x, .dic (rK ks)]) D.str (fun w => nd (lk ks w)) (bws bx ln) (by simp) (by omega) fun y hy => ⟨_, rfl, by
      have g := look_rK_get y ks
      simp only [wipeE, List.foldl, List.map, hideS, List.set, eDGet2A_eq, dicA_eq, eV_eq, eC_eq, List.getElem?_cons_succ, List.getElem?_cons_zero, bind_ok', keyD_str, dicOf_ref, a1, g]⟩
    have fm : ((bws bx ln).map fun w => D.int (lk ks w : Int)) = nl ((bws bx ln).map (lk ks)) := by simp [nl]
    rw [fm] at f
    simp only [sRet_eq, eCB_eq, aCons_eq, aNil_eq, mFrz_eq, f]
    rfl
  unfold readOf rsp
  by_cases h0 : toks z.cps.toList 0 = []
  · rw [if_pos h0]
    rw [decide_eq_true h0] at run
    refine ⟨rdC (toks z.cps.toList 0) 0 z.length, .dic (rK []), ?_⟩
    have w0 : whL (cB (eV 8)) reL 4000 (reE (.str z) (.lst (l.map dS)) (nd bx) (nd ln) (bws bx ln) (wdsOf l) S.length (.v (.bl (!true))) .no .no .no) (S ++ [rdC (toks z.cps.toList 0) 0 z.length, .dic []]) = .nx (reE (.str z) (.lst (l.map dS)) (nd bx) (nd ln) (bws bx ln) (wdsOf l) S.length (.v (.bl (!true))) .no .no .no) (S ++ [rdC (toks z.cps.toList 0) 0 z.length, .dic []]) := rfl
    rw [seq_of w0] at run
    have la := last [] (.v (.bl (!true))) .no (rdC (toks z.cps.toList 0) 0 z.length)
    have run := run.trans la
    rw [rs_eq]
    simp [run]
  · rw [if_neg h0]
    rw [decide_eq_false h0] at run
    have go := stms_go (e := z.length) (zd := .str z) (sd := .lst (l.map dS)) (bd := nd bx) (ld := nd ln) (s10 := .no) (bw := bws bx ln) (ws := wdsOf l) T ew (by omega) (by omega) eb S 4000 0 [] .no (by rw [List.drop_zero]; have := T.1; omega) (by rw [List.drop_zero]; have := T.1; simp; omega)
    rw [List.drop_zero] at go
    cases hs : stms (bws bx ln) (wdsOf l) z.length 4000 (toks z.cps.toList 0) [] with
    | error p =>
      rw [hs] at go
      obtain ⟨k', ks', E', go⟩ := go
      refine ⟨rdC (toks z.cps.toList 0) k' z.length, .dic (rK ks'), ?_⟩
      have run := run.trans (exc_of go)
      rw [rs_eq]
      simp [run]
    | ok ks =>
      rw [hs] at go
      obtain ⟨k', s9', go⟩ := go
      refine ⟨rdC (toks z.cps.toList 0) k' z.length, .dic (rK ks), ?_⟩
      have la := last ks (.v (.bl false)) s9' (rdC (toks z.cps.toList 0) k' z.length)
      have run := run.trans ((seq_of go).trans la)
      rw [rs_eq]
      simp [run]
end
end Fb
namespace Fb
open PySem L2 Mm Gf
theorem app_cps (x y : Str) : (x ++ y).cps.toList = x.cps.toList ++ y.cps.toList := by
  show (x.cps ++ y.cps).toList = _
  rw [Array.toList_append]
def Cut (r : List Nat) : Prop := r.takeWhile al = []
def LxA (x : Str) (W : List Str) : Prop := ∀ (r : List Nat) (p : Nat), ∃ ts p', toks (x.cps.toList ++ r) p = ts ++ toks r p' ∧ ts.map (·.1) = W
def Lx (x : Str) (W : List Str) : Prop := ∀ (r : List Nat) (p : Nat), Cut r → ∃ ts p', toks (x.cps.toList ++ r) p = ts ++ toks r p' ∧ ts.map (·.1) = W
def Aft (x : Str) : Prop := ∀ r, Cut r → Cut (x.cps.toList ++ r)
def AftA (x : Str) : Prop := ∀ r, Cut (x.cps.toList ++ r)
theorem LxA.lx {x : Str} {W : List Str} (h : LxA x W) : Lx x W := fun r p _ => h r p
theorem LxA.app {x y : Str} {V W : List Str} (h : LxA x V) (k : LxA y W) : LxA (x ++ y) (V ++ W) := fun r p => by
  obtain ⟨ts, p1, e1, m1⟩ := h (y.cps.toList ++ r) p
  obtain ⟨us, p2, e2, m2⟩ := k r p1
  refine ⟨ts ++ us, p2, ?_, by rw [List.map_append, m1, m2]⟩
  rw [app_cps, List.append_assoc, e1, e2, List.append_assoc]
theorem LxA.appL {x y : Str} {V W : List Str} (h : LxA x V) (k : Lx y W) : Lx (x ++ y) (V ++ W) := fun r p c => by
  obtain ⟨ts, p1, e1, m1⟩ := h (y.cps.toList ++ r) p
  obtain ⟨us, p2, e2, m2⟩ := k r p1 c
  refine ⟨ts ++ us, p2, ?_, by rw [List.map_append, m1, m2]⟩
  rw [app_cps, List.append_assoc, e1, e2, List.append_assoc]
theorem Lx.appA {x y : Str} {V W : List Str} (h : Lx x V) (k : LxA y W) (a : AftA y) : LxA (x ++ y) (V ++ W) := fun r p => by
  obtain ⟨ts, p1, e1, m1⟩ := h (y.cps.toList ++ r) p (a r)
  obtain ⟨us, p2, e2, m2⟩ := k r p1
  refine ⟨ts ++ us, p2, ?_, by rw [List.map_append, m1, m2]⟩
  rw [app_cps, List.append_assoc, e1, e2, List.append_assoc]
theorem Aft.appA {x y : Str} (h : Aft x) (k : AftA y) : AftA (x ++ y) := fun r => by
  rw [app_cps, List.append_assoc]
  exact h _ (k r)
theorem AftA.app {x y : Str} (h : AftA x) : AftA (x ++ y) := fun r => by
  rw [app_cps, List.append_assoc]
  exact h _
theorem lx_nil : LxA "" [] := fun r p => ⟨[], p, by
  have : (("" : Str).cps.toList) = [] := by decide +kernel
  rw [this]; rfl, rfl⟩
theorem tw_all (p : Nat → Bool) : ∀ (xs ys : List Nat), xs.all p = true → ys.takeWhile p = [] → (xs ++ ys).takeWhile p = xs ∧ (xs ++ ys).dropWhile p = ys
  | [], ys, _, h => ⟨h, by
    have := List.takeWhile_append_dropWhile (p := p) (l := ys)
    rw [h] at this
    exact this⟩
  | x :: xs, ys, hx, h => by
    rw [List.all_cons, Bool.and_eq_true] at hx
    obtain ⟨a, b⟩ := tw_all p xs ys hx.2 h
    rw [List.cons_append, List.takeWhile_cons, List.dropWhile_cons, hx.1, if_pos rfl, if_pos rfl, a, b]
    exact ⟨rfl, rfl⟩
theorem lx_word {w : Str} (h : Wdy w) : Lx w [w] := fun r p c => by
  obtain ⟨h1, h2⟩ := h
  cases e : w.cps.toList with
  | nil => exact absurd e h2
  | cons x xs =>
    rw [e, List.all_cons, Bool.and_eq_true] at h1
    obtain ⟨a, b⟩ := tw_all al xs r h1.2 c
    refine ⟨[(w, p)], p + 1 + xs.length, ?_, rfl⟩
    rw [List.cons_append, toks, if_pos h1.1, a, b]
    have : (⟨(x :: xs).toArray⟩ : Str) = w := by
      rw [← e]
    rw [this]
    rfl
theorem lx_sign {w : Str} {c : Nat} (e : w.cps.toList = [c]) (h1 : al c = false) (h2 : c ≠ 32) : LxA w [w] ∧ AftA w := by
  refine ⟨fun r p => ⟨[(w, p)], p + 1, ?_, rfl⟩, fun r => ?_⟩
  · rw [e, List.cons_append, List.nil_append, toks, h1, if_neg (by decide), if_neg h2]
    have : (⟨#[c]⟩ : Str) = w := by
      refine Str_ext ?_
      rw [e]
    rw [this]
    rfl
  · unfold Cut
    rw [e, List.cons_append, List.takeWhile_cons, h1]
    rfl
def Spc (w : Str) : Prop := ∃ n, w.cps.toList = List.replicate n 32
theorem spc_toks (r : List Nat) : ∀ (n p : Nat), toks (List.replicate n 32 ++ r) p = toks r (p + n)
  | 0, p => rfl
  | n + 1, p => by
    rw [List.replicate_succ, List.cons_append, toks, al_space, if_neg (by decide), if_pos rfl, spc_toks r n, Nat.add_assoc, Nat.add_comm 1 n]
theorem Spc.lx {w : Str} (h : Spc w) : LxA w [] := fun r p => by
  obtain ⟨n, e⟩ := h
  exact ⟨[], p + n, by rw [e, spc_toks]; rfl, rfl⟩
theorem Spc.aft {w : Str} (h : Spc w) : Aft w := fun r c => by
  obtain ⟨n, e⟩ := h
  rw [e]
  cases n with
  | zero => exact c
  | succ n =>
    unfold Cut
    rw [List.replicate_succ, List.cons_append, List.takeWhile_cons, al_space]
    rfl
theorem Spc.mk {w : Str} (h : w.cps.toList.all (fun c => decide (c = 32)) = true) : Spc w := by
  refine ⟨w.cps.toList.length, ?_⟩
  refine List.eq_replicate_iff.mpr ⟨rfl, fun c hc => ?_⟩
  have := List.all_eq_true.mp h c hc
  exact of_decide_eq_true this
theorem lx_whole {x : Str} {W : List Str} (h : Lx x W) : (toks x.cps.toList 0).map (·.1) = W := by
  obtain ⟨ts, p, e, m⟩ := h [] 0 rfl
  rw [List.append_nil] at e
  rw [e, toks, List.append_nil, m]
theorem lx_join {sep : Str} {s : Str} (h : LxA sep [s]) (a : AftA sep) : ∀ (qs : List (Str × List Str)), (∀ q ∈ qs, Lx q.1 q.2) → Lx (Str.join sep (qs.map (·.1))) (List.intercalate [s] (qs.map (·.2)))
  | [], _ => lx_nil.lx
  | [q], hq => by
    have : List.intercalate [s] ([q].map (·.2)) = q.2 := by simp [List.intercalate]
    rw [this]
    exact hq q List.mem_cons_self
  | q :: y :: r, hq => by
    have ih := lx_join h a (y :: r) fun z hz => hq z (List.mem_cons_of_mem _ hz)
    have := ((hq q List.mem_cons_self).appA h a).appL ih
    have e : List.intercalate [s] ((q :: y :: r).map (·.2)) = q.2 ++ [s] ++ List.intercalate [s] ((y :: r).map (·.2)) := by simp [List.intercalate]
    rw [e]
    exact this
theorem plus_end (ws : List Str) (e v : Nat) : ∀ r : List Tok, hdS r ≠ "+" → plus ws e r v = .ok (v, r)
  | [], _ => rfl
  | [t], h => by
    unfold plus
    exact if_neg h
  | t :: u :: r, h => by
    unfold plus
    exact if_neg h
def xr (ws : List Str) (v : Nat) (xs : List Str) : Nat := xs.foldl (fun v w => v ^^^ 2 ^ ws.idxOf w) v
theorem plus_terms (ws : List Str) (e : Nat) : ∀ (xs : List Str) (ts : List Tok) (r : List Tok) (v : Nat), ts.map (·.1) = xs.flatMap (fun w => [("+" : Str), w]) → (∀ w ∈ xs, w ∈ ws) → hdS r ≠ "+" → plus ws e (ts ++ r) v = .ok (xr ws v xs, r)
  | [], ts, r, v, h, _, hr => by
    have : ts = [] := List.map_eq_nil_iff.mp h
    rw [this]
    exact plus_end ws e v r hr
  | x :: xs, ts, r, v, h, hm, hr => by
    match ts, h with
    | t :: u :: ts, h =>
      simp only [List.flatMap_cons, List.map_cons, List.cons_append, List.nil_append, List.cons.injEq] at h
      obtain ⟨h1, h2, h3⟩ := h
      have ih := plus_terms ws e xs ts r (v ^^^ 2 ^ ws.idxOf x) h3 (fun w hw => hm w (List.mem_cons_of_mem _ hw)) hr
      show plus ws e (t :: u :: (ts ++ r)) v = _
      unfold plus
      rw [if_pos h1, h2, if_pos (hm x List.mem_cons_self), ih]
      rfl
    | [t], h => simp at h
    | [], h => simp at h
def sumT : List Str → List Str
  | [] => ["0"]
  | x :: xs => x :: xs.flatMap (fun w => [("+" : Str), w])
theorem rsum_terms (ws : List Str) (e : Nat) (h0 : ("0" : Str) ∉ ws) : ∀ (xs : List Str) (ts : List Tok) (r : List Tok), ts.map (·.1) = sumT xs → (∀ w ∈ xs, w ∈ ws) → hdS r ≠ "+" → rsum ws e (ts ++ r) = .ok (xr ws 0 xs, r)
  | [], ts, r, h, _, hr => by
    match ts, h with
    | [t], h =>
      have h : t.1 = "0" := by simpa [sumT] using h
      show rsum ws e (t :: r) = _
      rw [rsum_cons, if_pos h]
      rfl
    | [], h => simp [sumT] at h
    | t :: u :: ts, h => simp [sumT] at h
  | x :: xs, ts, r, h, hm, hr => by
    match ts, h with
    | t :: ts, h =>
      unfold sumT at h
      simp only [List.map_cons, List.cons.injEq] at h
      obtain ⟨h1, h2⟩ := h
      have hx := hm x List.mem_cons_self
      have n0 : ¬ x = "0" := fun q => h0 (q ▸ hx)
      show rsum ws e (t :: (ts ++ r)) = _
      rw [rsum_cons, h1, if_neg n0, if_pos hx, plus_terms ws e xs ts r _ h2 (fun w hw => hm w (List.mem_cons_of_mem _ hw)) hr]
      unfold xr
      rw [List.foldl_cons, Nat.zero_xor]
    | [], h => simp [sumT] at h
abbrev Itm := Str × List Str
def itT (i : Itm) : List Str := i.1 :: "=" :: sumT i.2
theorem stm_item {bw ws : List Str} {e : Nat} (h0 : ("0" : Str) ∉ ws) {ks : List (Str × Nat)} {i : Itm} {ts r : List Tok} (h : ts.map (·.1) = itT i) (hi : i.1 ∈ bw) (hk : i.1 ∉ ks.map (·.1)) (hm : ∀ w ∈ i.2, w ∈ ws) (hr : hdS r ≠ "+") : stm bw ws e ks (ts ++ r) = .ok (xr ws 0 i.2, r) ∧ hdS (ts ++ r) = i.1 := by
  match ts, h with
  | t :: u :: ts, h =>
    unfold itT at h
    simp only [List.map_cons, List.cons.injEq] at h
    obtain ⟨h1, h2, h3⟩ := h
    have rs := rsum_terms ws e h0 i.2 ts r h3 hm hr
    unfold stm
    have e1 : hdS (t :: u :: ts ++ r) = i.1 := h1
    refine ⟨?_, e1⟩
    rw [e1, if_pos (List.mem_filter.mpr ⟨hi, by simpa using hk⟩)]
    have e2 : hdS (t :: u :: ts ++ r).tail = "=" := h2
    rw [if_pos e2]
    exact rs
  | [t], h => simp [itT] at h
  | [], h => simp [itT] at h
theorem semi_ne : ¬ (";" : Str) = "+" := by decide +kernel
theorem stms_items {bw ws : List Str} {e : Nat} (h0 : ("0" : Str) ∉ ws) : ∀ (is : List Itm) (i : Itm) (T : List Tok) (ks : List (Str × Nat)) (n : Nat), T.map (·.1) = List.intercalate [(";" : Str)] ((i :: is).map itT) → (∀ j ∈ i :: is, j.1 ∈ bw ∧ ∀ w ∈ j.2, w ∈ ws) → (∀ j ∈ i :: is, j.1 ∉ ks.map (·.1)) → ((i :: is).map (·.1)).Nodup → is.length < n →
    stms bw ws e n T ks = .ok (ks ++ (i :: is).map fun j => (j.1, xr ws 0 j.2))
  | _, _, _, _, 0, _, _, _, _, hn => absurd hn (Nat.not_lt_zero _)
  | [], i, T, ks, n + 1, h, hb, hk, nd, hn => by
    have h : T.map (·.1) = itT i := by rw [h]; simp [List.intercalate]
    obtain ⟨b1, b2⟩ := hb i List.mem_cons_self
    obtain ⟨s1, s2⟩ := stm_item (e := e) h0 (r := []) h b1 (hk i List.mem_cons_self) b2 (by decide +kernel)
    rw [List.append_nil] at s1 s2
    unfold stms
    rw [s1]
    dsimp only
    rw [if_pos rfl, s2]
    rfl
  | j :: is, i, T, ks, n + 1, h, hb, hk, nd, hn => by
    have h : T.map (·.1) = itT i ++ ((";" : Str) :: List.intercalate [(";" : Str)] ((j :: is).map itT)) := by rw [h]; simp [List.intercalate]
    obtain ⟨ts, r0, rfl, h1, h2⟩ := List.map_eq_append_iff.mp h
    obtain ⟨u, r, rfl, h3, h4⟩ := List.map_eq_cons_iff.mp h2
    obtain ⟨b1, b2⟩ := hb i List.mem_cons_self
    obtain ⟨s1, s2⟩ := stm_item (e := e) h0 (r := u :: r) h1 b1 (hk i List.mem_cons_self) b2 (by show u.1 ≠ "+"; rw [h3]; exact semi_ne)
    obtain ⟨ni, nd'⟩ := List.nodup_cons.mp nd
    have ih := stms_items (e := e) h0 is j r (ks ++ [(i.1, xr ws 0 i.2)]) n h4 (fun k q => hb k (List.mem_cons_of_mem _ q)) (fun k q z => by
      rw [List.map_append] at z
      rcases List.mem_append.mp z with z | z
      · exact hk k (List.mem_cons_of_mem _ q) z
      · have : k.1 = i.1 := by simpa using z
        exact ni (by
          show i.1 ∈ _
          rw [← this]
          exact List.mem_map.mpr ⟨k, q, rfl⟩)) nd' (by simp only [List.length_cons] at hn; omega)
    unfold stms
    rw [s1]
    dsimp only
    rw [if_neg (by simp), if_pos (show hdS (u :: r) = ";" from h3), s2, List.tail_cons, ih, List.append_assoc]
    rfl
theorem rsp_items {bw ws : List Str} {e : Nat} (h0 : ("0" : Str) ∉ ws) (is : List Itm) (T : List Tok) (h : T.map (·.1) = List.intercalate [(";" : Str)] (is.map itT)) (hb : ∀ j ∈ is, j.1 ∈ bw ∧ ∀ w ∈ j.2, w ∈ ws) (nd : (is.map (·.1)).Nodup) (hn : is.length ≤ 1000) : rsp bw ws e T = .ok (is.map fun j => (j.1, xr ws 0 j.2)) := by
  unfold rsp
  cases is with
  | nil =>
    have : T = [] := List.map_eq_nil_iff.mp h
    rw [if_pos this]
    rfl
  | cons i is =>
    have ne : T ≠ [] := fun q => by
      rw [q] at h
      cases is <;> simp [List.intercalate, itT] at h
    rw [if_neg ne, stms_items (e := e) h0 is i T [] 4000 h hb (fun _ _ q => by cases q) nd (by simp only [List.length_cons] at hn; omega)]
    rfl
end Fb
namespace Fb
open PySem L2 Mm Gf
theorem sgn_plus : LxA "+" ["+"] ∧ AftA "+" := lx_sign (c := 43) (by decide +kernel) (by decide +kernel) (by decide)
theorem sgn_semi : LxA ";" [";"] ∧ AftA ";" := lx_sign (c := 59) (by decide +kernel) (by decide +kernel) (by decide)
theorem sgn_eq : LxA "=" ["="] ∧ AftA "=" := lx_sign (c := 61) (by decide +kernel) (by decide +kernel) (by decide)
theorem wdy_zero : Wdy "0" := by
  unfold Wdy
  decide +kernel
theorem Spc.sign {w v s : Str} (h : Spc w) (k : Spc v) (hs : LxA s [s] ∧ AftA s) : LxA (w ++ s ++ v) [s] ∧ AftA (w ++ s ++ v) :=
  ⟨(h.lx.app hs.1).app k.lx, (h.aft.appA hs.2).app⟩
theorem inter_sum : ∀ (x : Str) (xs : List Str), List.intercalate [("+" : Str)] ((x :: xs).map fun w => [w]) = sumT (x :: xs)
  | x, [] => by simp [List.intercalate, sumT]
  | x, y :: ys => by
    have ih := inter_sum y ys
    have e : List.intercalate [("+" : Str)] ((x :: y :: ys).map fun w => [w]) = [x] ++ [("+" : Str)] ++ List.intercalate [("+" : Str)] ((y :: ys).map fun w => [w]) := by simp [List.intercalate]
    rw [e, ih]
    simp [sumT]
def trm (xs : List Str) : List Str := if xs = [] then ["0"] else xs
theorem lx_sum {sep : Str} (h : LxA sep ["+"]) (a : AftA sep) {xs : List Str} (hx : ∀ x ∈ xs, Wdy x) : Lx (Txt.join sep (trm xs)) (sumT xs) := by
  have e : Txt.join sep (trm xs) = Str.join sep (trm xs) := StrLaws.glued_eq_join sep _
  rw [e]
  cases xs with
  | nil => exact lx_word wdy_zero
  | cons x xs =>
    have j := lx_join h a ((x :: xs).map fun w => (w, [w])) fun q hq => by
      obtain ⟨w, hw, rfl⟩ := List.mem_map.mp hq
      exact lx_word (hx w hw)
    rw [List.map_map, List.map_map] at j
    have e1 : ((x :: xs).map ((fun q : Str × List Str => q.1) ∘ fun w : Str => (w, [w]))) = x :: xs := by
      rw [show ((fun q : Str × List Str => q.1) ∘ fun w : Str => (w, [w])) = id from rfl, List.map_id]
    rw [e1] at j
    have e2 := inter_sum x xs
    unfold trm
    rw [if_neg (by simp)]
    rw [← e2]
    exact j
theorem xr_blend {ws : List Str} (nds : ws.Nodup) : ∀ (zs : List Nat) (v : Nat), (∀ z ∈ zs, z < ws.length) → xr ws v (zs.map fun z => ws.getD z "") = (zs.map (2 ^ ·)).foldl (· ^^^ ·) v
  | [], v, _ => rfl
  | z :: zs, v, h => by
    have ih := xr_blend nds zs (v ^^^ 2 ^ z) fun x hx => h x (List.mem_cons_of_mem _ hx)
    have hz := h z List.mem_cons_self
    have : ws.idxOf (ws.getD z "") = z := by
      have e : ws.getD z "" = ws[z] := by rw [List.getD_eq_getElem?_getD, List.getElem?_eq_getElem hz]; rfl
      rw [e]
      exact nds.idxOf_getElem z hz
    rw [List.map_cons, List.map_cons, List.foldl_cons, ← ih]
    unfold xr
    rw [List.foldl_cons, this]
end Fb
namespace Fb
open PySem L2 Mm Gf
def vals (ws : List Str) (is : List Itm) : List (Str × Nat) := is.map fun j => (j.1, xr ws 0 j.2)
theorem forL_nx {g : MG} {bd : MS} {d : D} {ds : List D} {env e1 e2 : Envr} {S S2 : Sto} (h1 : g d env = some e1) (h2 : bd e1 S = .nx e2 S2) : forL g bd (d :: ds) env S = forL g bd ds e2 S2 := by
  rw [forL, h1]
  simp only [h2]
section
variable {R : Sto} {b : Cell} {sd : D} {bx ln : Nat} {ws bw : List Str}
def rwsOf (l : List (Str × Nat)) (bx ln : Nat) (is : List Itm) : List Nat := (bws bx ln).map (lk (vals (wdsOf l) is))
end
end Fb
namespace Fb
open PySem L2 Mm Gf
theorem name_ne {x : Str} (h : nameB x = true) : x.cps.toList ≠ [] := by
  unfold nameB at h
  simp only [Bool.and_eq_true, decide_eq_true_eq] at h
  intro e
  have : x.cps.size = 0 := by rw [← Array.length_toList, e]; rfl
  omega
theorem zero_wd {l : List (Str × Nat)} (h : sideB l = true) : ("0" : Str) ∉ wdsOf l := fun q => by
  obtain ⟨a, _⟩ := sideB_ok h
  obtain ⟨p, hp, hx⟩ := List.mem_flatMap.mp q
  obtain ⟨k, hk, e⟩ := List.mem_map.mp hx
  have nm := (a p hp).1
  have e := congrArg (fun s : Str => s.cps.toList) e
  have z : (("0" : Str).cps.toList) = [48] := by decide +kernel
  simp only [wd_cps, z] at e
  cases ex : p.1.cps.toList with
  | nil => exact name_ne nm ex
  | cons c r =>
    have := name_small nm c (by rw [ex]; exact List.mem_cons_self)
    rw [ex, List.cons_append] at e
    have e : c = 48 := (List.cons.inj e).1
    rw [e] at this
    exact absurd this (by decide +kernel)
theorem bits_back (r : Nat) : ∀ (n k : Nat), ((((List.range n).filter fun i => r.testBit i).map (2 ^ ·)).foldl (· ^^^ ·) 0).testBit k = (decide (k < n) && r.testBit k)
  | 0, k => by simp
  | n + 1, k => by
    have ih := bits_back r n k
    rw [List.range_succ, List.filter_append, List.map_append, List.foldl_append]
    cases h : r.testBit n with
    | true =>
      rw [List.filter_cons_of_pos (by exact h), List.filter_nil, List.map_cons, List.map_nil, List.foldl_cons, List.foldl_nil, Nat.testBit_xor, ih, Nat.testBit_two_pow]
      by_cases e : n = k
      · subst e
        simp [h]
      · have : decide (k < n + 1) = decide (k < n) := decide_eq_decide.mpr (by omega)
        rw [this, decide_eq_false e, Bool.xor_false]
    | false =>
      rw [List.filter_cons_of_neg (by rw [h]; decide), List.filter_nil, List.map_nil, List.foldl_nil, ih]
      by_cases e : n = k
      · subst e
        simp [h]
      · have : decide (k < n + 1) = decide (k < n) := decide_eq_decide.mpr (by omega)
        rw [this]
theorem bits_whole {r n : Nat} (h : r < 2 ^ n) : (((List.range n).filter fun i => r.testBit i).map (2 ^ ·)).foldl (· ^^^ ·) 0 = r := by
  refine Nat.eq_of_testBit_eq fun k => ?_
  rw [bits_back]
  by_cases hk : k < n
  · rw [decide_eq_true hk, Bool.true_and]
  · rw [decide_eq_false hk, Bool.false_and]
    exact (Nat.testBit_lt_two_pow (Nat.lt_of_lt_of_le h (Nat.pow_le_pow_right (by decide) (by omega)))).symm
theorem selW_rng (ws : List Str) (r : Nat) : selW ws r = ((List.range ws.length).filter fun i => r.testBit i).map fun i => ws.getD i "" := by
  have z : ws.zipIdx = (List.range ws.length).map fun i => (ws.getD i "", i) := by
    refine List.ext_getElem (by simp) fun i h1 h2 => ?_
    simp only [List.length_zipIdx] at h1
    simp [List.getD_eq_getElem?_getD, h1]
  unfold selW
  rw [z, List.filter_map, List.map_map]
  rfl
theorem xr_sel {ws : List Str} (nds : ws.Nodup) {r : Nat} (h : r < 2 ^ ws.length) : xr ws 0 (selW ws r) = r := by
  rw [selW_rng, xr_blend nds _ 0 fun z hz => List.mem_range.mp (List.mem_filter.mp hz).1, bits_whole h]
def wIt (bw ws : List Str) (rs : List Nat) : List Itm := (bw.zip rs).filterMap fun p => if p.2 = 0 then none else some (p.1, selW ws p.2)
theorem wIt_mem {bw ws : List Str} {rs : List Nat} {j : Itm} (h : j ∈ wIt bw ws rs) : j.1 ∈ bw ∧ ∃ r ∈ rs, r ≠ 0 ∧ j.2 = selW ws r := by
  obtain ⟨p, hp, e⟩ := List.mem_filterMap.mp h
  split at e
  · cases e
  · rename_i n
    cases e
    exact ⟨(List.of_mem_zip hp).1, p.2, (List.of_mem_zip hp).2, n, rfl⟩
theorem wIt_cons (w : Str) (bw ws : List Str) (r : Nat) (rs : List Nat) : wIt (w :: bw) ws (r :: rs) = if r = 0 then wIt bw ws rs else (w, selW ws r) :: wIt bw ws rs := by
  unfold wIt
  rw [List.zip_cons_cons, List.filterMap_cons]
  by_cases h : r = 0
  · simp [h]
  · simp [h]
theorem wIt_nd (ws : List Str) : ∀ (bw : List Str) (rs : List Nat), bw.Nodup → ((wIt bw ws rs).map (·.1)).Nodup
  | [], _, _ => by simp [wIt]
  | _ :: _, [], _ => by simp [wIt]
  | w :: bw, r :: rs, h => by
    obtain ⟨h1, h2⟩ := List.nodup_cons.mp h
    have ih := wIt_nd ws bw rs h2
    rw [wIt_cons]
    split
    · exact ih
    · refine List.nodup_cons.mpr ⟨fun q => ?_, ih⟩
      obtain ⟨j, hj, e⟩ := List.mem_map.mp q
      have := (wIt_mem hj).1
      rw [e] at this
      exact h1 this
theorem lk_cons (p : Str × Nat) (ks : List (Str × Nat)) (w : Str) : lk (p :: ks) w = if p.1 = w then p.2 else lk ks w := by
  unfold lk
  rw [List.find?_cons]
  by_cases h : p.1 = w
  · rw [decide_eq_true h, if_pos h]
    rfl
  · rw [decide_eq_false h, if_neg h]
theorem lk_not {ks : List (Str × Nat)} {w : Str} (h : w ∉ ks.map (·.1)) : lk ks w = 0 := by
  unfold lk
  have n : ks.find? (fun p => decide (p.1 = w)) = none := by
    rw [List.find?_eq_none]
    intro p hp q
    exact h (List.mem_map.mpr ⟨p, hp, of_decide_eq_true q⟩)
  rw [n]
  rfl
theorem rows_back {ws : List Str} (nds : ws.Nodup) : ∀ (bw : List Str) (rs : List Nat), bw.Nodup → rs.length = bw.length → (∀ r ∈ rs, r < 2 ^ ws.length) → bw.map (lk (vals ws (wIt bw ws rs))) = rs
  | [], [], _, _, _ => rfl
  | [], _ :: _, _, h, _ => by simp at h
  | _ :: _, [], _, h, _ => by simp at h
  | w :: bw, r :: rs, h, hl, hr => by
    obtain ⟨h1, h2⟩ := List.nodup_cons.mp h
    have ih := rows_back nds bw rs h2 (by simpa using hl) fun x hx => hr x (List.mem_cons_of_mem _ hx)
    have nw : w ∉ (vals ws (wIt bw ws rs)).map (·.1) := fun q => by
      unfold vals at q
      rw [List.map_map] at q
      obtain ⟨j, hj, e⟩ := List.mem_map.mp q
      have := (wIt_mem hj).1
      have e : j.1 = w := e
      rw [e] at this
      exact h1 this
    rw [wIt_cons]
    by_cases h0 : r = 0
    · rw [if_pos h0, List.map_cons, lk_not nw, ih, h0]
    · rw [if_neg h0, List.map_cons]
      have e1 : vals ws ((w, selW ws r) :: wIt bw ws rs) = (w, r) :: vals ws (wIt bw ws rs) := by
        show (w, xr ws 0 (selW ws r)) :: _ = _
        rw [xr_sel nds (hr r List.mem_cons_self)]
        rfl
      rw [e1, lk_cons, if_pos rfl]
      have : bw.map (lk ((w, r) :: vals ws (wIt bw ws rs))) = bw.map (lk (vals ws (wIt bw ws rs))) := List.map_congr_left fun x hx => by
        rw [lk_cons, if_neg (fun q : w = x => h1 (q ▸ hx))]
      rw [this, ih]
theorem spc_one : Spc " " := Spc.mk (by decide +kernel)
theorem lx_sep : (LxA " = " ["="] ∧ AftA " = ") ∧ (LxA " + " ["+"] ∧ AftA " + ") ∧ (LxA "; " [";"] ∧ AftA "; ") := by
  have e1 : (" = " : Str) = " " ++ "=" ++ " " := by decide +kernel
  have e2 : (" + " : Str) = " " ++ "+" ++ " " := by decide +kernel
  have e3 : ("; " : Str) = ";" ++ " " := by decide +kernel
  rw [e1, e2, e3]
  exact ⟨spc_one.sign spc_one sgn_eq, spc_one.sign spc_one sgn_plus, sgn_semi.1.app spc_one.lx, sgn_semi.2.app⟩
theorem lx_itm {w : Str} {ws : List Str} {r : Nat} (hw : Wdy w) (hs : ∀ x ∈ ws, Wdy x) (nds : ws.Nodup) (hr : r < 2 ^ ws.length) (h0 : r ≠ 0) : Lx (itm w ws r) (itT (w, selW ws r)) := by
  obtain ⟨l1, l2, _⟩ := lx_sep
  have ne : selW ws r ≠ [] := fun q => by
    have := xr_sel nds hr
    rw [q] at this
    exact h0 this.symm
  have s := lx_sum l2.1 l2.2 (xs := selW ws r) fun x hx => hs x (sel_mem hx)
  have tr : trm (selW ws r) = selW ws r := if_neg ne
  rw [tr] at s
  exact ((lx_word hw).appA l1.1 l1.2).appL s
theorem parts_map (ws : List Str) : ∀ (bw : List Str) (rs : List Nat), parts bw ws rs = ((bw.zip rs).filterMap fun p => if p.2 = 0 then none else some (itm p.1 ws p.2, itT (p.1, selW ws p.2))).map (·.1) ∧ (wIt bw ws rs).map itT = ((bw.zip rs).filterMap fun p => if p.2 = 0 then none else some (itm p.1 ws p.2, itT (p.1, selW ws p.2))).map (·.2) := fun bw rs => by
  unfold parts wIt
  rw [List.map_filterMap, List.map_filterMap, List.map_filterMap]
  constructor
  · congr 1
    funext p
    split <;> rfl
  · congr 1
    funext p
    split <;> rfl
theorem written_tx {l : List (Str × Nat)} (hB : sideB l = true) (hz : l.length ≤ 1000) {bx ln : Nat} (hb : bx ≤ 12) (hln : ln ≤ 12) (h20 : bx + ln ≤ 20) (rs : List Nat) (hl : rs.length = bx + ln) (hr : ∀ r ∈ rs, r < 2 ^ (l.map (·.2)).sum) :
    readOf l bx ln (txtOf (bws bx ln) (wdsOf l) rs) = .ok (vals (wdsOf l) (wIt (bws bx ln) (wdsOf l) rs)) ∧ rwsOf l bx ln (wIt (bws bx ln) (wdsOf l) rs) = rs ∧ Tx 2900 (txtOf (bws bx ln) (wdsOf l) rs) := by
  obtain ⟨_, w2, w3⟩ := sp_words (S := []) hB hz
  obtain ⟨_, q2⟩ := bws_ok (S := []) (bx := bx) (ln := ln) hb hln
  have bl := bws_len bx ln
  obtain ⟨wn, ww⟩ := sideB_wds hB
  obtain ⟨bn, bw⟩ := bws_wds hb hln
  have wl := wds_len l
  have hr' : ∀ r ∈ rs, r < 2 ^ (wdsOf l).length := fun r h => by rw [wl]; exact hr r h
  refine ⟨?_, rows_back wn _ _ bn (by omega) hr', txtOf_tx q2 (by omega) w2 w3⟩
  obtain ⟨p1, p2⟩ := parts_map (wdsOf l) (bws bx ln) rs
  have lx : Lx (txtOf (bws bx ln) (wdsOf l) rs) (List.intercalate [(";" : Str)] ((wIt (bws bx ln) (wdsOf l) rs).map itT)) := by
    unfold txtOf
    rw [p1, p2, show Txt.join "; " _ = Str.join "; " _ from StrLaws.glued_eq_join _ _]
    refine lx_join lx_sep.2.2.1 lx_sep.2.2.2 _ fun q hq => ?_
    obtain ⟨p, hp, e⟩ := List.mem_filterMap.mp hq
    split at e
    · cases e
    · rename_i n
      cases e
      exact lx_itm (bw _ (List.of_mem_zip hp).1) ww wn (hr' _ (List.of_mem_zip hp).2) n
  refine rsp_items (zero_wd hB) _ _ (lx_whole lx) (fun j hj => ⟨(wIt_mem hj).1, fun x hx => ?_⟩) (wIt_nd _ _ _ bn) ?_
  · obtain ⟨r, _, _, e⟩ := (wIt_mem hj).2
    rw [e] at hx
    exact sel_mem hx
  · have := List.length_filterMap_le (fun p : Str × Nat => if p.2 = 0 then none else some (p.1, selW (wdsOf l) p.2)) ((bws bx ln).zip rs)
    have z : ((bws bx ln).zip rs).length ≤ 20 := by rw [List.length_zip]; omega
    unfold wIt
    omega
end Fb
namespace Fb
open PySem L2 Mm Gf
abbrev Fl := Nat × Option Nat
def sec (o : Option Nat) (c : Nat) : Bool := match o with
  | none => false
  | some j => c.testBit j
def fl (f : Fl) (c : Nat) : Bool := c.testBit f.1 ^^ sec f.2 c
end Fb
namespace Fb
open PySem L2 Mm Gf
def hit (st : List Nat) (one : Nat) : Bool := decide (2 ^ (st.length - 1) ≤ one) && decide (one < 2 * 2 ^ (st.length - 1)) && decide (app st one = 0)
def meet (st : List Nat) : Nat → List (List Nat) → Option (Nat × Nat)
  | _, [] => none
  | k, s :: ss => match s.find? (hit st) with
    | some one => some (k, one)
    | none => meet st (k + 1) ss
end Fb
namespace Fb
open PySem L2 Mm Gf
def met (sps : List (List Nat)) (st : List Nat) : Option (Nat × Nat) := if 0 < st.length then meet st 0 sps else none
end Fb
namespace Fb
open PySem L2 Mm Gf
def tree (w : Nat) : Nat → Nat
  | 0 => 1
  | n + 1 => 1 + w * tree w n
end Fb
namespace Mm
open PySem L2
section
variable {g : Gam} {w : Wd} {H : Hp} {xs r0 : List D} {A : Sto} {Hs : List (List D)}
abbrev hS (xs r0 : List D) (A : Sto) (Hs : List (List D)) : Sto := .lst (.lst xs :: r0) :: (A ++ Hs.map Cell.lst)
end
end Mm
namespace Mm
open PySem PySem.Spec PyProof.Rows L2
def tDead : TE := fun _ _ _ => False
def eDead : ME := fun _ _ => .stuck
theorem s_dead {X : Cx} {Y : Gam} {W : WX} {e : Expr} : SE X Y W e tDead eDead := ⟨⟨fun _ _ _ _ _ _ z => z.elim⟩, fun _ _ _ _ _ _ _ _ _ _ p => p⟩
@[simp] theorem eDead_eq (env : Envr) (S : Sto) : eDead env S = .stuck := rfl
theorem nsSet_and {M : Model} {A : Around} {a : Addr} {n : Str} {v : Value} {Q1 Q2 : Unit → Shared → Prop} {E : Value → Shared → Prop} {s : Shared} (h1 : wpAny M A (nsSet a n v) Q1 E s) (h2 : wpAny M A (nsSet a n v) Q2 E s) :
    wpAny M A (nsSet a n v) (fun u s' => Q1 u s' ∧ Q2 u s') E s := fun Γ p hΓ => by
  have a1 := h1 Γ p hΓ
  have a2 := h2 Γ p hΓ
  clear h1 h2
  unfold nsSet at *
  simp only [Sem.wp_bind'] at *
  obtain ⟨o1, e1, q1⟩ := a1
  obtain ⟨o2, e2, q2⟩ := a2
  rw [e1] at e2
  cases e2
  refine ⟨o1, e1, ?_⟩
  simp only [Sem.wp] at q1 q2 ⊢
  cases z : o1.data with
  | dict es ep =>
    rw [z] at q1 q2
    dsimp only at q1 q2 ⊢
    by_cases k : aRefKeyMayBeTheName n es = true
    · rw [if_pos k] at q1
      exact False.elim q1
    · rw [if_neg k] at q1 q2 ⊢
      exact ⟨q1.1, q1.2, q2.2⟩
  | _ =>
    rw [z] at q1
    exact False.elim q1
section
variable {X : Cx} {pins : List (Addr × Obj)} {σ : L2.St} {H : Hp} {s : Shared} {M : Model} {A : Around} {E : Value → Shared → Prop}
theorem store_raw {i : Nat} {x : Str} {v : V} {u : Value} (I : Inv X pins σ H s) (hN : X.N.Nodup) (hi : X.N[i]? = some x) (hx : X.env.scope.names.lookup x = some .local) (r : RelV v u) :
    wpAny M A (storeName X.env x u) (fun _ s' => Inv X pins (σ.set i (some v)) H s' ∧ 1 ≤ s'.toks ∧ ∃ m, s'.heap.Ns X.env.locals m ∧ m x = some u) E s := by
  obtain ⟨m, hn, _⟩ := id I.loc
  have cl : (X.env.scope.kind == .class || (X.env.scope.kind == .module && X.env.locals != X.env.globals)) = false := by rw [I.ok.kind]; rfl
  have w1 := store_ok (M := M) (A := A) (E := E) (Q := fun _ z => Inv X pins (σ.set i (some v)) H z) I hN hi (.inl hx) r (fun z J => J) (.inr hx)
  have w2 := wpAny_storeName_local (M := M) (A := A) (E := E) (v := u) (Q := fun _ z => 1 ≤ z.toks ∧ ∃ m, z.heap.Ns X.env.locals m ∧ m x = some u) hx hn (fun h2 g2 _ => ⟨Nat.succ_le_succ (Nat.zero_le _), _, g2, by simp⟩) cl
  rw [storeName_local hx cl] at w1 w2 ⊢
  exact nsSet_and w1 w2
end
structure SBT (X : Cx) (Y : Gam) (W : WX) (ss : List Stmt) (t : TS) (m : MS) : Prop where
  pss : PSsT X ss t
  sim : SimS Y W t m
section
variable {X : Cx} {Y : Gam} {W : WX} {st : Stmt} {ss : List Stmt} {t u : TS} {m n : MS} {te : TE} {me : ME} {e : Expr} {pos : Pos}
theorem pss_tok {i : Nat} {x : Str} {pos' : Pos} (he : PE X e te) (hr : PSsT X ss u) (hN : X.N.Nodup) (hi : X.N[i]? = some x) (hx : X.env.scope.names.lookup x = some .local) (hs : swapsWith e (some (.Name x pos')) pos.line X.env = pure false) :
    PSs X (.Assign [.Name x pos'] e pos :: ss) (tSeq (tAsg te (gName i)) u) := ⟨fun pins s σ H D I q =>
  wpAny_execs_cons (wpAny_Assign_Name (thn (he.run pins s σ H _ I q) fun v z ⟨y, H1, J, r, q1⟩ => wpAny_mono (store_raw J hN hi hx r) (fun _ z2 ⟨J2, k, _⟩ => hr pins z2 _ H1 D k J2 q1) fun _ _ w => w) hs)⟩
end
end Mm
namespace Mm
open PySem PySem.Spec PyProof.Rows L2
abbrev Tk4 := Str × Tok × Str × Tok
abbrev tkP (q : Tk4) : Value × Value := (.str q.1 q.2.1, .str q.2.2.1 q.2.2.2)
def RawO (tks : List Tk4) (o : Obj) : Prop := ∃ es ep, o.data = .dict es ep ∧ es.toList.map (fun e => (e.key, e.val)) = tks.map tkP
abbrev tkK (q : Tk4) : Key × Value := (.inr q.1, .str q.2.2.1 q.2.2.2)
section
variable {P : Program} {w : World} {A : Around} {E : Value → Shared → Prop} {s : Shared}
def RawD (P : Program) (w : World) (h : Heap) (d : Addr) (tks : List Tk4) : Prop := h.DictOf (mixKind P w) d (tks.map tkK) ∧ ∃ o, h.get? d = some o ∧ RawO tks o
theorem raw_nil (h : Heap) : RawD P w (h.push { cls := .type "dict", data := .dict #[] }) h.objs.size [] := ⟨Heap.DictOf.new h, _, Heap.get?_push_size _ rfl, #[], 0, rfl, rfl⟩
theorem raw_set {d : Addr} {tks : List Tk4} {x y : Str} {t u : Tok} {Q : Unit → Shared → Prop} (hm : RawD P w s.heap d tks) (hx : x ∉ tks.map (·.1)) (hz : tks.length ≤ 100)
    (q : ∀ h2, RawD P w h2 d (tks ++ [(x, t, y, u)]) → Heap.SameBut d s.heap h2 → Q () { s with heap := h2, toks := s.toks + 1 }) : wpAny (model P w) A (dictSet d (.str x t) (.str y u)) Q E s := by
  obtain ⟨⟨o0, es, ep, g0, c0, d0, k0, p0, n0⟩, o1, g1, es1, ep1, d1, r1⟩ := hm
  rw [g0] at g1
  cases g1
  rw [d0] at d1
  cases d1
  have l0 := p0.length
  have z0 : es.size ≤ sizeLine := by
    have e2 : es.toList.length = es.size := by simp
    rw [List.length_map] at l0
    have : (100 : Nat) ≤ sizeLine := by decide
    omega
  have hk : (mixKind P w).is (.inr x) (.str x t) = true := by show keyIs (.inr x) (.str x t) = true; simp [keyIs, Value.isStrOf]
  have ne : (Sum.inr x : Key) ∉ (tks.map tkK).map (·.1) := fun z => by
    rw [List.map_map] at z
    obtain ⟨p, hp, e⟩ := List.mem_map.mp z
    exact hx (List.mem_map.mpr ⟨p, hp, Sum.inr.inj e⟩)
  have ix : (es.findIdx? fun e => (mixKind P w).is (.inr x) e.key) = none := by
    have a := p0.findIdx (.inr x)
    have b : (es.findIdx? fun e => (mixKind P w).is (.inr x) e.key) = es.toList.findIdx? fun e => (mixKind P w).is (.inr x) e.key := by
      obtain ⟨l⟩ := es
      simp
    rw [b, a, List.findIdx?_eq_none_iff]
    intro p hp
    exact decide_eq_false fun z => ne (List.mem_map.mpr ⟨p, hp, z⟩)
  unfold dictSet
  refine wpAny_holding (wpAny_bind ((mixKind P w).pyHash hk ?_))
  unfold dictSetHashed
  refine wpAny_holding (wpAny_bind (wpAny_dictFind_of (s := { s with toks := s.toks + 1 }) hk g0 d0 k0 ?_))
  rw [ix]
  refine wpAny_bind (wpAny_rule (wpAny_updateDictKeys (hz := z0) (s := { s with toks := s.toks + 1 }) g0 d0 (q _ ⟨⟨_, _, ep + 1, Heap.get?_update_self _ g0 (Obj.isFreed_of_dict (Obj.data_mapDictKeys d0 _)), c0.mapDictKeys _, Obj.data_mapDictKeys d0 _, k0.push hk _, ?_, ?_⟩, _, Heap.get?_update_self _ g0 (Obj.isFreed_of_dict (Obj.data_mapDictKeys d0 _)), _, _, Obj.data_mapDictKeys d0 _, ?_⟩ (Heap.SameBut.update ..))))
  · have a := p0.append hk ((mixKind P w).hash (.inr x)) (.str y u)
    obtain ⟨l⟩ := es
    simpa using a
  · rw [List.map_append, List.map_append, List.nodup_append]
    refine ⟨n0, by simp, fun a ha b hb => ?_⟩
    simp only [List.map_cons, List.map_nil, List.mem_singleton] at hb
    subst hb
    exact fun e => ne (e ▸ ha)
  · rw [List.map_append, ← r1]
    obtain ⟨l⟩ := es
    simp
theorem raw_all {d : Addr} : ∀ (more tks : List Tk4) (s : Shared) (Q : PUnit → Shared → Prop), RawD P w s.heap d tks → (tks.map (·.1) ++ more.map (·.1)).Nodup → tks.length + more.length ≤ 100 →
    (∀ h2, RawD P w h2 d (tks ++ more) → Heap.SameBut d s.heap h2 → Q PUnit.unit { s with heap := h2, toks := s.toks + more.length }) →
    wpAny (model P w) A (forIn (more.map tkP) PUnit.unit fun (x : Value × Value) (_ : PUnit) => (do dictSet d x.1 x.2; pure (ForInStep.yield PUnit.unit) : Sem (ForInStep PUnit))) Q E s
  | [], tks, s, Q, hm, _, _, q => by
    rw [List.map_nil, List.forIn_nil]
    exact wpAny_pure (by simpa using q s.heap (by simpa using hm) (Heap.SameBut.refl _ _))
  | (x, t, y, u) :: more, tks, s, Q, hm, hn, hz, q => by
    have hz : tks.length + (more.length + 1) ≤ 100 := hz
    rw [List.map_cons, List.forIn_cons]
    refine wpAny_bind (wpAny_bind (raw_set hm (fun z => (List.nodup_append.mp hn).2.2 x z x (by simp) rfl) (by omega) fun h1 m1 b1 => wpAny_pure ?_))
    refine raw_all more (tks ++ [(x, t, y, u)]) _ Q m1 (by simpa using hn) (by simp; omega) fun h2 m2 b2 => ?_
    have a := q h2 (by simpa using m2) (b1.trans b2)
    simpa [Nat.add_assoc, Nat.add_comm 1] using a
theorem raw_disp {X : Cx} {keys : List (Option Expr)} {values : List Expr} {pos : Pos} {Q : Value → Shared → Prop} (hall : keys.all (·.isSome) = true) (hl : keys.length = values.length) (h0 : keys ≠ []) (h15 : keys.length ≤ 15)
    (h : wpAny (model P w) A (evalPairs (pairTrees keys values X.env pos)) (fun vs s1 => ∃ tks : List Tk4, vs = tks.map tkP ∧ (tks.map (·.1)).Nodup ∧ tks.length ≤ 15 ∧ RawD P w s1.heap s.heap.objs.size [] ∧
      ∀ h2, RawD P w h2 s.heap.objs.size tks → Heap.SameBut s.heap.objs.size s1.heap h2 → Q (.ref s.heap.objs.size) { s1 with heap := h2, toks := s1.toks + tks.length }) E { s with heap := s.heap.push { cls := .type "dict", data := .dict #[] } }) :
    wpAny (model P w) A (eval (.Dict keys values pos) X.env) Q E s := by
  have hn := pairTrees_length keys values X.env pos hall hl
  rw [arm_eval_Dict, zip_pairTrees keys values X.env pos hall hl, dictDisplay_pairs (pairTrees keys values X.env pos) (fun he => h0 (List.length_eq_zero_iff.mp (by rw [he] at hn; exact hn.symm))) (by omega)]
  refine wpAny_bind (wpAny_standAt (wpAny_bind ?_))
  unfold subDict
  refine wpAny_bind (wpAny_alloc (wpAny_bind (wpAny_holding ?_)))
  rw [if_pos (by omega)]
  refine wpAny_bind (wpAny_mono h (fun vs s1 q => ?_) fun _ _ e => e)
  obtain ⟨tks, rfl, nd, lz, m0, q⟩ := q
  refine wpAny_holding (wpAny_bind (raw_all tks [] s1 _ m0 (by simpa using nd) (by simp; omega) fun h2 m2 b2 => wpAny_pure (wpAny_pure (wpAny_pure (q h2 (by simpa using m2) b2)))))
end
end Mm
namespace Mm
open PySem PySem.Spec PyProof.Rows L2
inductive Kst : List (Str × Str) → List (Option Expr) → List Expr → Prop
  | nil : Kst [] [] []
  | cons {x y : Str} {r : List (Str × Str)} {ks : List (Option Expr)} {vs : List Expr} {j k : Nat} {p q : Pos} : Kst r ks vs → Kst ((x, y) :: r) (some (.Constant (.str x) j p) :: ks) (.Constant (.str y) k q :: vs)
abbrev tkS (q : Tk4) : Str × Str := (q.1, q.2.2.1)
def TkOk (tks : List Tk4) : Prop := ∀ q ∈ tks, q.2.1 ≠ 0 ∧ q.2.2.2 ≠ 0 ∧ q.2.1 ≠ q.2.2.2
def RawF (kvs : List (Str × Str)) (o : Obj) : Prop := ∃ tks, RawO tks o ∧ tks.map tkS = kvs ∧ TkOk tks
abbrev kvR (p : Str × Str) : Key × V := (.inr p.1, .str p.2)
theorem kst_len {kvs : List (Str × Str)} {ks : List (Option Expr)} {vs : List Expr} (h : Kst kvs ks vs) : ks.length = kvs.length ∧ vs.length = kvs.length ∧ ks.all (·.isSome) = true := by
  induction h with
  | nil => exact ⟨rfl, rfl, rfl⟩
  | cons h ih => exact ⟨by simp [ih.1], by simp [ih.2.1], by simp [ih.2.2]⟩
section
variable {P : Program} {w : World} {A : Around} {E : Value → Shared → Prop} {env : Env}
theorem raw_pairs {pos : Pos} {kvs : List (Str × Str)} {ks : List (Option Expr)} {vs : List Expr} (h : Kst kvs ks vs) : ∀ (s : Shared) (Q : List (Value × Value) → Shared → Prop), 1 ≤ s.toks →
    (∀ tks k, tks.map tkS = kvs → TkOk tks → Q (tks.map tkP) { s with toks := k }) → wpAny (model P w) A (evalPairs (pairTrees ks vs env pos)) Q E s := by
  induction h with
  | nil => exact fun s Q _ q => pairTrees_nil_walk (q [] s.toks rfl (fun _ h => absurd h List.not_mem_nil))
  | cons h ih =>
    intro s Q h0 q
    refine pairTrees_cons_walk (Calls.Constant_str (Calls.Constant_str ?_))
    refine ih _ _ (by show 1 ≤ s.toks + 1 + 1; omega) fun tks k e ok => ?_
    refine q ((_, s.toks, _, s.toks + 1) :: tks) k (by rw [List.map_cons, e]) fun z hz => ?_
    rcases List.mem_cons.mp hz with rfl | hz
    · exact ⟨by show s.toks ≠ 0; omega, by show s.toks + 1 ≠ 0; omega, by show s.toks ≠ s.toks + 1; omega⟩
    · exact ok z hz
end
theorem kvr_raw : ∀ tks : List Tk4, KV ((tks.map tkS).map kvR) (tks.map tkK)
  | [] => .nil
  | q :: r => .cons ⟨rfl, ⟨q.2.2.2, rfl⟩⟩ (kvr_raw r)
def tRawD (j : Nat) (kvs : List (Str × Str)) : TS := fun D σ H => ∀ a o, H a = none → RawF kvs o → D.nx (σ.set j (some (.ref a))) (upd H a (.frz o (.dK (kvs.map kvR))))
theorem pst_rawD {X : Cx} {j : Nat} {x : Str} {kvs : List (Str × Str)} {ks : List (Option Expr)} {vs : List Expr} {dpos pos' pos : Pos} (hk : Kst kvs ks vs) (hn : (kvs.map (·.1)).Nodup) (h0 : kvs ≠ []) (h15 : kvs.length ≤ 15) (hN : X.N.Nodup) (hi : X.N[j]? = some x) (hx : Loc X.env.scope x) (hF : X.fn x = true ∨ X.env.scope.names.lookup x = some .local)
    (hs : swapsWith (.Dict ks vs dpos) (some (.Name x pos')) pos.line X.env = pure false) : PST X (.Assign [.Name x pos'] (.Dict ks vs dpos) pos) (tRawD j kvs) := by
  intro pins s σ H D k0 I h
  obtain ⟨l1, l2, l3⟩ := kst_len hk
  have hf := I.hok.fresh (Nat.le_refl s.heap.objs.size)
  refine wpAny_Assign_Name (raw_disp l3 (l1.trans l2.symm) (fun e => h0 (List.length_eq_zero_iff.mp (by rw [← l1, e]; rfl))) (by omega) (raw_pairs hk _ _ k0 fun tks k e ok => ?_)) hs
  subst e
  refine ⟨tks, rfl, ?_, by rw [List.length_map] at h15; exact h15, raw_nil s.heap, fun h2 rd sb => ?_⟩
  · rw [List.map_map] at hn
    exact hn
  obtain ⟨dd, o, g, ro⟩ := rd
  have ne : (s.heap.objs.size == sysModules) = false := beq_eq_false_iff_ne.mpr (Ne.symm (Nat.ne_of_lt I.big))
  have ob : ObjOk X.prog X.w (upd H s.heap.objs.size (.frz o (.dK ((tks.map tkS).map kvR)))) h2 s.heap.objs.size (.dK ((tks.map tkS).map kvR)) := dk_new (by rw [List.length_map]; exact Nat.le_trans h15 (by decide)) ne (kvr_raw tks) dd
  have J := I.laid (a := s.heap.objs.size) (o := .frz o (.dK ((tks.map tkS).map kvR))) (h' := h2) (t' := k + tks.length) (fun b q hq => (sb.2 b (Nat.ne_of_lt (Heap.lt_size hq))).trans (Heap.get?_push_of_some _ hq)) (Nat.le_refl _) ⟨g, ob⟩
  exact store_ok (v := V.ref s.heap.objs.size) J hN hi hx rfl (fun s2 J2 => ⟨_, _, J2, h _ o hf ⟨tks, ro, rfl, ok⟩⟩) hF
end Mm
namespace Mm
open PySem PySem.Spec PyProof.Rows L2
theorem next_key_raw {prog : Program} {w : World} {A : Around} {E : Value → Shared → Prop} {s : Shared} {it d : Addr} {i n ep : Nat} {ob : Obj} {es : Array DictEntry} {en : DictEntry} {Q : Option Value → Shared → Prop} (g : s.heap.IsKeyIter it d i n ep) (hb : s.heap.get? d = some ob) (hdt : ob.data = .dict es ep) (hsz : es.size = n) (hx : es[i]? = some en)
    (q : ∀ h2, h2.IsKeyIter it d (i + 1) n ep → Heap.SameBut it s.heap h2 → Q (some en.key) { s with heap := h2 }) : wpAny (model prog w) A (pyNext (.ref it)) Q E s := by
  obtain ⟨oi, gi, ci, di⟩ := id g
  have li : i < es.size := by
    rcases Nat.lt_or_ge i es.size with z | z
    · exact z
    · rw [Array.getElem?_eq_none z] at hx; cases hx
  have eq : es[i] = en := by
    rw [Array.getElem?_eq_getElem li] at hx
    exact Option.some.inj hx
  have ow : Builtin.Dict_items.ownsTuple "dict_keyiterator" = false := by decide
  unfold pyNext
  refine wpAny_bind (wpAny_attempt (wpAny_callSpecial?_slot (name := Str.ofString "__next__") g.typeIs F.slot_dict_keyiterator_next (wpAny_call_entry F.slot_dict_keyiterator_next g.typeIs F.entry_dict_keyiterator_next (wpAny_bind (wpAny_pure (wpAny_bind (wpAny_bind ?_)))) (F.args_dict_keyiterator_next_1 _))))
  first | refine wpAny_bind (wpAny_typeNameOfWhole_keyiter g.typeIs (wpAny_pure (wpAny_bind (wpAny_fieldsOf gi di ?_)))) | refine wpAny_bind (wpAny_typeNameOf_keyiter g.typeIs (wpAny_pure (wpAny_bind (wpAny_fieldsOf gi di ?_))))
  simp only [ow, Bool.false_eq_true, if_false]
  show wpAny _ _ (if (Value.ref d == Value.none) = true then _ else _) _ _ s
  rw [if_neg (show ¬ ((Value.ref d == Value.none) = true) from Bool.false_ne_true)]
  refine wpAny_bind (wpAny_pure (wpAny_bind (wpAny_dictEntries hb hdt ?_)))
  rw [if_neg (by rw [hsz]; simp)]
  refine wpAny_bind (wpAny_pure (wpAny_bind (wpAny_dictEpoch hb hdt ?_)))
  rw [if_neg (by simp)]
  refine wpAny_pure ?_
  simp only [show ¬ ((i : Int) < 0) from by omega, if_false, Int.toNat_natCast, Array.getElem?_eq_getElem li]
  refine wpAny_bind ?_
  have st2 : (s.heap.update it (Obj.mapFields (·.setIfInBounds 1 (rawInt ((i : Int) + 1))))).IsKeyIter it d (i + 1) n ep :=
    ⟨_, Heap.get?_update_self _ gi (Obj.isFreed_of_fields (Obj.data_mapFields di _)), (Obj.cls_mapFields ..).trans ci, by rw [Obj.data_mapFields di]; simp [rawInt]⟩
  have fin : wpAny (model prog w) A (setField (.ref it) 1 (rawInt ((i : Int) + 1))) (fun _ z => z = { s with heap := s.heap.update it (Obj.mapFields (·.setIfInBounds 1 (rawInt ((i : Int) + 1)))) }) E s := wpAny_setField gi di (by simp) rfl
  first | refine wpAny_bind (wpAny_typeNameOfWhole_keyiter g.typeIs (wpAny_pure (wpAny_bind (wpAny_isOneOf_keyiter g.typeIs ?_)))) | refine wpAny_bind (wpAny_typeNameOf_keyiter g.typeIs (wpAny_pure (wpAny_bind (wpAny_isOneOf_keyiter g.typeIs ?_))))
  show wpAny _ _ (setField (.ref it) 1 (rawInt ((i : Int) + 1)) >>= _) _ _ s
  refine wpAny_bind (wpAny_setField gi di (by simp) (wpAny_bind (wpAny_holding (wpAny_bind (wpAny_isOneOf_keyiter (s := { s with heap := s.heap.update it (Obj.mapFields (·.setIfInBounds 1 (rawInt ((i : Int) + 1)))) }) st2.typeIs ?_)))))
  show wpAny _ _ (pure es[i].key) _ _ _
  rw [eq]
  exact wpAny_pure (wpAny_pure ⟨_, rfl, wpAny_pure (q _ st2 (Heap.SameBut.update ..))⟩)
end Mm
namespace Mm
open PySem PySem.Spec PyProof.Rows L2
def goR (iv ik : Nat) : List (Str × Str) → Str → L2.St → L2.St
  | [], _, σ => σ
  | p :: r, x, σ => goR iv ik r (Txt.replace x p.1 p.2) ((σ.set iv (some (.str p.1))).set ik (some (.str (Txt.replace x p.1 p.2))))
def fitR : List (Str × Str) → Str → Prop
  | [], _ => True
  | p :: r, x => (p.1 == p.2) = false ∧ x.length + (x.length + 1) * p.2.length ≤ 16777216 ∧ fitR r (Txt.replace x p.1 p.2)
def tReplD (j iv ik : Nat) (kvs : List (Str × Str)) : TS := fun D σ H => ∃ a o x, σ[j]? = some (some (.ref a)) ∧ σ[ik]? = some (some (.str x)) ∧ H a = some (.frz o (.dK (kvs.map kvR))) ∧ RawF kvs o ∧ (kvs.map (·.1)).Nodup ∧ fitR kvs x ∧ D.nx (goR iv ik kvs x σ) H
theorem raw_at {tks : List Tk4} {o : Obj} {es : Array DictEntry} {ep : Nat} (h : RawO tks o) (hd : o.data = .dict es ep) : es.size = tks.length ∧ ∀ (i : Nat) (q : Tk4), tks[i]? = some q → ∃ en : DictEntry, es[i]? = some en ∧ en.key = .str q.1 q.2.1 ∧ en.val = .str q.2.2.1 q.2.2.2 := by
  obtain ⟨es1, ep1, d1, r1⟩ := h
  rw [hd] at d1
  cases d1
  have l := congrArg List.length r1
  rw [List.length_map, List.length_map, Array.length_toList] at l
  refine ⟨l, fun i q hq => ?_⟩
  have e := congrArg (fun z => z[i]?) r1
  simp only [List.getElem?_map, hq, Option.map_some] at e
  cases z : es.toList[i]? with
  | none => rw [z] at e; cases e
  | some en =>
    rw [z] at e
    have e : (en.key, en.val) = tkP q := Option.some.inj e
    exact ⟨en, by rw [← Array.getElem?_toList]; exact z, congrArg Prod.fst e, congrArg Prod.snd e⟩
section
variable {P : Program} {w : World}
theorem raw_val {h : Heap} {a : Addr} {tks : List Tk4} {o : Obj} {vs : List (Key × Value)} {i : Nat} {q : Tk4} (dd : h.DictOf (mixKind P w) a vs) (g : h.get? a = some o) (ro : RawO tks o) (hq : tks[i]? = some q) : valueAt vs (.inr q.1) = some (.str q.2.2.1 q.2.2.2) := by
  obtain ⟨o1, es, ep, g1, c1, d1, k1, p1, n1⟩ := dd
  rw [g] at g1
  cases g1
  obtain ⟨z, at_⟩ := raw_at ro d1
  obtain ⟨en, he, hk, hv⟩ := at_ i q hq
  have li : i < vs.length := by
    have l := p1.length
    rw [Array.length_toList, z] at l
    rw [← l]
    exact (List.getElem?_eq_some_iff.mp hq).1
  have e2 := p1.get? (i := i) (e := en) (k := (vs[i]).1) (v := (vs[i]).2) (by rw [Array.getElem?_toList]; exact he) (by rw [List.getElem?_eq_getElem li])
  have hk2 : (mixKind P w).is (.inr q.1) en.key = true := by rw [hk]; show keyIs (.inr q.1) (.str q.1 q.2.1) = true; simp [keyIs, Value.isStrOf]
  have ek := (mixKind P w).inj _ _ _ hk2 e2.1
  have r := valueAt_of_get n1 (i := i) (k := (vs[i]).1) (v := (vs[i]).2) (by rw [List.getElem?_eq_getElem li])
  rw [ek, r, ← e2.2, hv]
end
section
variable {X : Cx}
theorem step_raw {pins : List (Addr × Obj)} {σ : L2.St} {H : Hp} {s : Shared} {ik j : Nat} {tx nm dn x y z : Str} {t u : Tok} {a : Addr} {vs : List (Key × Value)} {Q : Flow → Shared → Prop} {p3 p4 p5 p6 p7 p8 p9 apos cpos : Pos} (I : Inv X pins σ H s) (hN : X.N.Nodup)
    (hit : X.N[ik]? = some tx) (hlt : X.env.scope.names.lookup tx = some .local) (hln : X.env.scope.names.lookup nm = some .local) (hid : X.N[j]? = some dn) (hvd : Vis X.env.scope dn) (hσt : σ[ik]? = some (some (.str x))) (hσd : σ[j]? = some (some (.ref a)))
    (hraw : ∃ m, s.heap.Ns X.env.locals m ∧ m nm = some (.str y t)) (hd : s.heap.DictOf (mixKind X.prog X.w) a vs) (hv : valueAt vs (.inr y) = some (.str z u)) (ht : t ≠ 0) (hu : u ≠ 0) (htu : t ≠ u) (hyz : (y == z) = false) (hb : x.length + (x.length + 1) * z.length ≤ 16777216)
    (dt : (tx == ("__debug__" : Str)) = false) (ct : (tx == ("__classdict__" : Str)) = false) (dm : (nm == ("__debug__" : Str)) = false) (dd : (dn == ("__debug__" : Str)) = false) (cd : (dn == ("__classdict__" : Str)) = false)
    (hst : starEach [.Name nm p5, .Subscript (.Name dn p6) (.Name nm p7) p8] X.env = [(false, eval (.Name nm p5) X.env), (false, eval (.Subscript (.Name dn p6) (.Name nm p7) p8) X.env)])
    (hbase : attributeBase (.Name tx p4) "replace" X.env (eval (.Name tx p4) X.env) = eval (.Name tx p4) X.env) (hline : (apos.endLine == cpos.line) = true)
    (hsw : swapsWith (.Call (.Attribute (.Name tx p4) "replace" apos) [.Name nm p5, .Subscript (.Name dn p6) (.Name nm p7) p8] [] cpos) (some (.Name tx p3)) p9.line X.env = pure false)
    (q : ∀ s2, Inv X pins (σ.set ik (some (.str (Txt.replace x y z)))) H s2 → Q .next s2) :
    wpAny (model X.prog X.w) X.A (execs [.Assign [.Name tx p3] (.Call (.Attribute (.Name tx p4) "replace" apos) [.Name nm p5, .Subscript (.Name dn p6) (.Name nm p7) p8] [] cpos) p9] X.env) Q X.xe s := by
  obtain ⟨m, hm, hmn⟩ := hraw
  refine wpAny_execs_cons (wpAny_Assign_Name (PySem.Call_method2 hbase hst hline (raw_name hit (.inl hlt) I hσt (fun v r => ?_) dt ct)) hsw)
  obtain ⟨k0, rfl⟩ := r
  refine ⟨"str", _, F.plainAttrs_str, F.slot_str_replace, F.type_str_replace, typeIs_str _ _ _, (fun _ e => nomatch e), Calls.callWith_builtin rfl (Calls.evalArgs_plain (Calls.spliced_cons (wpAny_Name (wpAny_loadName_local I.ok.kind hln hm hmn (Calls.spliced_cons ?_)) dm)))⟩
  refine Subscript_Name (raw_name hid hvd I hσd (fun v r => ?_) dd cd)
  have r : v = Value.ref a := r
  subst r
  refine wpAny_Name (wpAny_loadName_local I.ok.kind hln hm hmn ⟨"dict", _, PySem.F.slot_dict_getitem.lookup, hd.typeIs, wpAny_getItem_of (k := .inr y) (by show keyIs (.inr y) (.str y t) = true; simp [keyIs, Value.isStrOf]) hd.mapOf hv (Calls.spliced_nil ?_)⟩) dm
  exact PySem.SC.replace ht hu htu hyz hb fun t2 k2 => store_ok (v := V.str (Txt.replace x y z)) (I.tok k2) hN hit (.inl hlt) ⟨t2, rfl⟩ (fun s2 J => wpAny_execs_nil (q s2 J)) (.inr hlt)
end
end Mm
namespace Mm
open PySem PySem.Spec PyProof.Rows L2
section
variable {X : Cx}
theorem ps_replD {kvs : List (Str × Str)} {ik iv j : Nat} {tx nm dn : Str} {p1 p2 p3 p4 p5 p6 p7 p8 p9 apos cpos pos : Pos} (hp : PassesOwn (model X.prog X.w) X.A X.env X.xe) (hc : X.calm = true) (hN : X.N.Nodup)
    (hit : X.N[ik]? = some tx) (hin : X.N[iv]? = some nm) (hlt : X.env.scope.names.lookup tx = some .local) (hln : X.env.scope.names.lookup nm = some .local) (hid : X.N[j]? = some dn) (hvd : Vis X.env.scope dn) (n1 : iv ≠ ik) (n2 : iv ≠ j) (n3 : ik ≠ j)
    (dt : (tx == ("__debug__" : Str)) = false) (ct : (tx == ("__classdict__" : Str)) = false) (dm : (nm == ("__debug__" : Str)) = false) (dd : (dn == ("__debug__" : Str)) = false) (cd : (dn == ("__classdict__" : Str)) = false)
    (hst : starEach [.Name nm p5, .Subscript (.Name dn p6) (.Name nm p7) p8] X.env = [(false, eval (.Name nm p5) X.env), (false, eval (.Subscript (.Name dn p6) (.Name nm p7) p8) X.env)])
    (hbase : attributeBase (.Name tx p4) "replace" X.env (eval (.Name tx p4) X.env) = eval (.Name tx p4) X.env) (hline : (apos.endLine == cpos.line) = true)
    (hsw : swapsWith (.Call (.Attribute (.Name tx p4) "replace" apos) [.Name nm p5, .Subscript (.Name dn p6) (.Name nm p7) p8] [] cpos) (some (.Name tx p3)) p9.line X.env = pure false)
    (hs : ∀ x, foldedSetIterable (.Name dn p2) X.env x = pure x) :
    PS X (.For (.Name nm p1) (.Name dn p2) [.Assign [.Name tx p3] (.Call (.Attribute (.Name tx p4) "replace" apos) [.Name nm p5, .Subscript (.Name dn p6) (.Name nm p7) p8] [] cpos) p9] [] pos) (tReplD j iv ik kvs) := by
  refine ⟨fun pins s σ H D I h => ?_⟩
  obtain ⟨a, o, x, hj, hx, ha, ⟨tks, ro, rfl, tok⟩, nd, hf, q⟩ := h
  obtain ⟨ne, g, ex, es, ep, vs0, hdt, hsz, _, _⟩ := I.frzK ha
  have lz : es.size = tks.length := (raw_at ro hdt).1
  refine wpAny_For (raw_name hid hvd I hj (fun v r => ?_) dd cd) hs
  have r : v = Value.ref a := r
  subst r
  refine iter_keys ne g ex hdt ?_
  have I0 := I.kept (t' := s.toks) (h' := s.heap.push { cls := .type "dict_keyiterator", data := .fields #[.ref a, .int 0 0, .int es.size 0, .int ep 0] }) fun b ob e => Heap.get?_push_of_some _ e
  have fp := I.fpOk (b := s.heap.objs.size) (Nat.le_refl _) (I.hok.fresh (Nat.le_refl _))
  have k0 : (s.heap.push { cls := .type "dict_keyiterator", data := .fields #[.ref a, .int 0 0, .int es.size 0, .int ep 0] }).IsKeyIter s.heap.objs.size a 0 tks.length ep := ⟨_, Heap.get?_push_size _ rfl, rfl, by rw [lz]; rfl⟩
  generalize s.heap.objs.size = it at *
  generalize hs0 : ({ s with heap := s.heap.push { cls := .type "dict_keyiterator", data := .fields #[.ref a, .int 0 0, .int es.size 0, .int ep 0] } } : Shared) = s0
  have I0 : Inv X pins σ H s0 := by rw [← hs0]; exact I0
  have k0 : s0.heap.IsKeyIter it a 0 tks.length ep := by rw [← hs0]; exact k0
  clear hs0
  obtain ⟨f0, f1, f2, f3, f4, f5⟩ := id fp
  refine codeAny_forLoop_any (fun n z => ∃ i σ2 y, n = tks.length - i ∧ i ≤ tks.length ∧ Inv X pins σ2 H z ∧ z.heap.IsKeyIter it a i tks.length ep ∧ σ2[j]? = some (some (.ref a)) ∧ σ2[ik]? = some (some (.str y)) ∧ fitR ((tks.map tkS).drop i) y ∧ goR iv ik ((tks.map tkS).drop i) y σ2 = goR iv ik (tks.map tkS) x σ) ?_ tks.length ⟨0, σ, x, rfl, Nat.zero_le _, I0, k0, hj, hx, hf, rfl⟩
  rintro n z ⟨i, σ2, y, rfl, hi, J, ki, hj2, hy, hfi, hgo⟩
  obtain ⟨_, gz, exz, esz, epz, vz, dz, sz, kvz, mz⟩ := J.frzK ha
  rw [hdt] at dz
  cases dz
  by_cases le : tks.length ≤ i
  · have ei : i = tks.length := Nat.le_antisymm hi le
    have dn0 : (tks.map tkS).drop i = [] := List.drop_eq_nil_of_le (by rw [List.length_map]; omega)
    rw [dn0] at hgo
    have hgo : σ2 = goR iv ik (tks.map tkS) x σ := hgo
    refine wpAny_passesOwn hp (next_key_end (J.ok.hd hc) ki gz hdt lz le fun h2 eb => ?_)
    have J2 : Inv X pins σ2 H { z with heap := h2 } := J.turned (t' := z.toks) (fun b ob hb e => eb b ob hb e) f0 f1 f3 f4 f5
    exact wpAny_execs_nil ⟨σ2, H, J2, by rw [hgo]; exact q⟩
  · have li : i < tks.length := by omega
    obtain ⟨tq, htq⟩ : ∃ tq, tks[i]? = some tq := ⟨_, List.getElem?_eq_getElem li⟩
    obtain ⟨en, hen, hek, hev⟩ := (raw_at ro hdt).2 i tq htq
    obtain ⟨t0, u0, tu⟩ := tok tq (List.mem_of_getElem? htq)
    have dc : (tks.map tkS).drop i = tkS tq :: (tks.map tkS).drop (i + 1) := by
      have e1 : (tks.map tkS)[i]? = some (tkS tq) := by rw [List.getElem?_map, htq]; rfl
      obtain ⟨w1, w2⟩ := List.getElem?_eq_some_iff.mp e1
      rw [List.drop_eq_getElem_cons w1, w2]
    rw [dc] at hfi hgo
    obtain ⟨yz, fb, fr⟩ := hfi
    refine wpAny_passesOwn hp (next_key_raw ki gz hdt lz hen fun h2 k2 sb => ?_)
    have J2 : Inv X pins σ2 H { z with heap := h2 } := J.turned (t' := z.toks) (fun b ob hb e => (sb.2 b hb).trans e) f0 f1 f3 f4 f5
    obtain ⟨oi, gi, ci, di⟩ := id k2
    refine wpAny_passesOwn hp (go_of (s := { z with heap := h2 }) gi ci di (by decide) ?_)
    have J3 := J2.pinned (fp := [it]) (fun b hb => by rw [List.mem_singleton.mp hb]; exact fp) (fun b hb => by rw [List.mem_singleton.mp hb]; exact ⟨oi, gi, fun v e => by rw [di] at e; cases e⟩)
    rw [hek]
    refine wpAny_passesOwn hp (wpAny_assign_Name (wpAny_mono (store_raw J3 hN hin hln (v := .str tq.1) ⟨tq.2.1, rfl⟩) (fun _ z3 hz3 => ?_) fun _ _ e => e))
    obtain ⟨J4, _, raw⟩ := hz3
    have li2 : iv < σ2.length := by rw [J.len]; exact (List.getElem?_eq_some_iff.mp hin).1
    obtain ⟨_, g4, _⟩ := J4.frzK ha
    have dd4 : z3.heap.DictOf (mixKind X.prog X.w) a (tks.map tkK) := by
      obtain ⟨_, g5, ex5, es5, ep5, vs5, d5, s5, kv5, m5⟩ := J4.frzK ha
      have e5 := m5.dictOf
      obtain ⟨o6, es6, ep6, g6, c6, d6, k6, p6, n6⟩ := id e5
      have ev : vs5 = tks.map tkK := by
        refine List.ext_getElem? fun m => ?_
        have lv : vs5.length = tks.length := by
          have := Paired.length kv5
          rw [List.length_map, List.length_map] at this
          exact this.symm
        cases hm : tks[m]? with
        | none =>
          have lm : tks.length ≤ m := by
            rcases Nat.lt_or_ge m tks.length with w | w
            · rw [List.getElem?_eq_getElem w] at hm; cases hm
            · exact w
          rw [List.getElem?_eq_none (by omega), List.getElem?_map, hm]
          rfl
        | some qm =>
          have e7 := raw_val e5 g5 ro hm
          obtain ⟨bv, hbv, rb1, rb2⟩ := paired_get (l₁ := (tks.map tkS).map kvR) (l₂ := vs5) kv5 (i := m) (a := kvR (tkS qm)) (by rw [List.getElem?_map, List.getElem?_map, hm]; rfl)
          have nb := valueAt_of_get n6 (i := m) (k := bv.1) (v := bv.2) hbv
          have rb1 : (kvR (tkS qm)).1 = bv.1 := rb1
          rw [← rb1] at nb
          have : some (Value.str qm.2.2.1 qm.2.2.2) = some bv.2 := e7.symm.trans nb
          rw [hbv, List.getElem?_map, hm]
          show some bv = some (tkK qm)
          have e8 := Option.some.inj this
          rw [show bv = (bv.1, bv.2) from rfl, ← rb1, ← e8]
      rw [← ev]
      exact e5
    have va : valueAt (tks.map tkK) (.inr tq.1) = some (.str tq.2.2.1 tq.2.2.2) := raw_val dd4 g4 ro htq
    refine wpAny_passesOwn hp (step_raw J4 hN hit hlt hln hid hvd (by rw [List.getElem?_set_ne n1]; exact hy) (by rw [List.getElem?_set_ne n2]; exact hj2) raw dd4 va t0 u0 tu yz fb dt ct dm dd cd hst hbase hline hsw fun z5 J5 => ?_)
    have kp := J5.pin (it, oi) (List.mem_append_right _ (List.mem_append_right _ (mem_pinsAt (List.mem_singleton_self it) gi)))
    refine ⟨tks.length - (i + 1), by omega, i + 1, _, Txt.replace y tq.1 tq.2.2.1, rfl, li, J5.unpinned, ⟨oi, kp.1, ci, di⟩, ?_, ?_, fr, hgo⟩
    · rw [List.getElem?_set_ne n3, List.getElem?_set_ne n2]
      exact hj2
    · have lk : ik < σ2.length := (List.getElem?_eq_some_iff.mp hy).1
      rw [List.getElem?_set_self (by rw [List.length_set]; exact lk)]
end
end Mm
namespace Mm
open PySem PySem.Spec PyProof.Rows L2
section
variable {g : Gam} {w0 w : Wd} {H0 H : Hp} {σ : L2.St} {env : Envr} {S : Sto} {O : List (Option Addr)}
theorem StR.knew (st : StR g w0 H0 w H σ env S O) {a : Addr} {u : HO} (h : H a = none) (nt : ∀ ps, u ≠ .tbl ps) : StR g w0 H0 (w.kn a u) (upd H a u) σ env S O := by
  obtain ⟨h0, hG, nr, nO⟩ := st.out h
  have st := st.lay h nt
  have l := kn_le (o := u) hG
  have ne : ∀ b, b ≠ a → (w.kn a u).G b = w.G b := fun b hb => by
    show upd w.G a u b = w.G b
    exact upd_ne hb
  refine ⟨⟨fun b v e => ?_, ⟨st.ok.cells.nd, st.ok.cells.len, fun n b c e1 e2 => ?_⟩, st.ok.tabs, fun b ps z => ?_⟩, ⟨st.fr.le.trans l, st.fr.keep, fun b hb => ?_, st.fr.rho, st.fr.dom, st.fr.tb, st.fr.fz⟩, st.l1, st.l2, fun i s x o e1 e2 e3 => ?_, st.inj, st.fresh⟩
  · by_cases hb : b = a
    · rw [hb, kn_at] at e
      rw [hb, upd_same]
      exact e
    · rw [ne b hb] at e
      exact st.ok.ex b v e
  · obtain ⟨q1, q2⟩ := st.ok.cells.at_ n b c e1 e2
    have hb : b ≠ a := fun z => nr (z ▸ List.mem_of_getElem? e1)
    exact ⟨by rw [ne b hb]; exact q1, q2.move l rfl⟩
  · by_cases hb : b = a
    · rw [hb, kn_at] at z
      exact nt ps (Option.some.inj z)
    · rw [ne b hb] at z
      exact st.ok.notab b ps z
  · have hb' : b ≠ a := fun z => hb (by rw [z]; exact h0)
    rw [ne b hb']
    exact st.fr.newG b hb
  · have q := st.sl i s x o e1 e2 e3
    cases s with
    | no => exact q
    | v d =>
      obtain ⟨q1, v, q2, q3⟩ := q
      exact ⟨q1, v, q2, q3.mono l⟩
    | o c =>
      obtain ⟨p, q1, q2, q3, q4⟩ := q
      have hp : p ≠ a := fun z => nO i (by rw [e3, q1, z])
      exact ⟨p, q1, q2, by rw [ne p hp]; exact q3, q4.move l rfl⟩
end
abbrev kvD (p : Str × Str) : Key × D := (.inr p.1, .str p.2)
theorem repk_raw {g : Gam} {w : Wd} : ∀ kvs : List (Str × Str), RepK g w (kvs.map kvD) (kvs.map kvR)
  | [] => by unfold RepK; rfl
  | p :: r => by
    show RepK g w (kvD p :: r.map kvD) (kvR p :: r.map kvR)
    unfold RepK
    exact ⟨_, _, rfl, rep_str', repk_raw r⟩
def KR (Y : Gam) (j : Nat) (kvs : List (Str × Str)) (w0 : Wd) (H0 : Hp) (w : Wd) (H : Hp) (σ : L2.St) (env : Envr) (S : Sto) (O : List (Option Addr)) : Prop :=
  StR Y w0 H0 w H σ env S O ∧ ∃ a o, σ[j]? = some (some (.ref a)) ∧ w.G a = some (.frz o (.dK (kvs.map kvR))) ∧ RawF kvs o
def SimSR (Y : Gam) (W : WX) (j : Nat) (kvs : List (Str × Str)) (t : TS) (m : MS) : Prop := ∀ w0 H0 w H σ env S O (Dn : Ends), KR Y j kvs w0 H0 w H σ env S O → PostS Y W w0 H0 w Dn (m env S) → t Dn σ H
structure SBR (X : Cx) (Y : Gam) (W : WX) (j : Nat) (kvs : List (Str × Str)) (ss : List Stmt) (t : TS) (m : MS) : Prop where
  pss : PSs X ss t
  sim : SimSR Y W j kvs t m
def sRawD (j : Nat) (kvs : List (Str × Str)) (m : MS) : MS := fun env S => if Nat.blt j env.length then m (env.set j (.v (.dic (kvs.map kvD)))) S else .stuck
def fitB : List (Str × Str) → Str → Bool
  | [], _ => true
  | p :: r, x => (!(p.1 == p.2)) && decide (x.length + (x.length + 1) * p.2.length ≤ 16777216) && fitB r (Txt.replace x p.1 p.2)
theorem fitB_R : ∀ (kvs : List (Str × Str)) (x : Str), fitB kvs x = true → fitR kvs x
  | [], _, _ => trivial
  | p :: r, x, h => by
    unfold fitB at h
    rw [Bool.and_eq_true, Bool.and_eq_true] at h
    exact ⟨by simpa using h.1.1, of_decide_eq_true h.1.2, fitB_R r _ h.2⟩
def goE (iv ik : Nat) : List (Str × Str) → Str → Envr → Envr
  | [], _, e => e
  | p :: r, x, e => goE iv ik r (Txt.replace x p.1 p.2) ((e.set iv (.v (.str p.1))).set ik (.v (.str (Txt.replace x p.1 p.2))))
def sReplD (iv ik : Nat) (kvs : List (Str × Str)) (m : MS) : MS := fun env S => match env[ik]? with
  | some (.v (.str x)) => if fitB kvs x then m (goE iv ik kvs x env) S else .stuck
  | _ => .stuck
theorem st_go {Y : Gam} {w0 w : Wd} {H0 H : Hp} {S : Sto} (iv ik : Nat) : ∀ (kvs : List (Str × Str)) (x : Str) {σ : L2.St} {env : Envr} {O : List (Option Addr)}, StR Y w0 H0 w H σ env S O → ∃ O2, StR Y w0 H0 w H (goR iv ik kvs x σ) (goE iv ik kvs x env) S O2
  | [], _, σ, env, O, st => ⟨O, st⟩
  | p :: r, x, σ, env, O, st => st_go iv ik r (Txt.replace x p.1 p.2) ((st.set_v iv (d := .str p.1) rep_str').set_v ik (d := .str (Txt.replace x p.1 p.2)) rep_str')
section
variable {X : Cx} {Y : Gam} {W : WX} {st : Stmt} {ss : List Stmt} {t u : TS} {m n : MS} {te : TE} {me : ME} {e : Expr} {pos : Pos} {kvs : List (Str × Str)}
theorem sim_seq' {t1 t2 : TS} {m1 m2 : MS} (h1 : SimS Y W t1 m1) (h2 : SimS Y W t2 m2) : SimS Y W (tSeq t1 t2) (sSeq m1 m2) := fun w0 H0 w H σ env S O Dn st p => by
  refine h1 w0 H0 w H σ env S O { Dn with nx := t2 Dn } st ?_
  unfold sSeq at p
  cases q : m1 env S with
  | nx e1 S1 =>
    rw [q] at p
    exact fun w' H' σ' O' st' l' => h2 w0 H0 w' H' σ' e1 S1 O' Dn st' (p.mono l')
  | _ => rw [q] at p; exact p
theorem bT_cons (h1 : SS X Y W st t m) (h2 : SBT X Y W ss u n) : SBT X Y W (st :: ss) (tSeq t u) (sSeq m n) := ⟨psst_cons (PST.of h1.ps) h2.pss, sim_seq' h1.sim h2.sim⟩
theorem b_tok {i : Nat} {x : Str} {pos' : Pos} (he : SE X Y W e te me) (hr : SBT X Y W ss u n) (hN : X.N.Nodup) (hi : X.N[i]? = some x := by rfl) (hx : X.env.scope.names.lookup x = some .local := by rfl) (hs : swapsWith e (some (.Name x pos')) pos.line X.env = pure false := by rfl) :
    SB X Y W (.Assign [.Name x pos'] e pos :: ss) (tSeq (tAsg te (gName i)) u) (sSeq (sAsg me (gN i)) n) := ⟨pss_tok he.pe hr.pss hN hi hx hs, sim_seq' (sim_asg (is := [i]) he.sim fun w0 H0 w H σ env S O d v Q e st r h q => by
    cases h
    exact q _ _ (st.set_v i r) (Slots.set σ (by simp))) hr.sim⟩
theorem bR_start {j : Nat} {x : Str} {ks : List (Option Expr)} {vs : List Expr} {dpos pos' : Pos} (kvs : List (Str × Str)) (hk : Kst kvs ks vs) (hr : SBR X Y W j kvs ss t m) (hN : X.N.Nodup) (hn : (kvs.map (·.1)).Nodup := by decide +kernel) (h0 : kvs ≠ [] := by decide) (h15 : kvs.length ≤ 15 := by decide) (hi : X.N[j]? = some x := by rfl) (hx : Loc X.env.scope x := by first | exact Or.inl rfl | exact Or.inr rfl) (hF : X.fn x = true ∨ X.env.scope.names.lookup x = some .local := by first | exact .inl rfl | exact .inr rfl)
    (hs : swapsWith (.Dict ks vs dpos) (some (.Name x pos')) pos.line X.env = pure false := by rfl) : SBT X Y W (.Assign [.Name x pos'] (.Dict ks vs dpos) pos :: ss) (tSeq (tRawD j kvs) t) (sRawD j kvs m) :=
  ⟨psst_cons (pst_rawD hk hn h0 h15 hN hi hx hF hs) (PSsT.of hr.pss), fun w0 H0 w H σ env S O Dn st p => by
    unfold sRawD at p
    by_cases hj : Nat.blt j env.length = true
    case neg =>
      rw [if_neg hj] at p
      exact False.elim p
    rw [if_pos hj] at p
    have hjl : j < env.length := by simpa [Nat.blt_eq] using hj
    intro a o ha ro
    have l := kn_le (o := HO.frz o (.dK (kvs.map kvR))) (st.out ha).2.1
    have st2 := (st.knew (u := .frz o (.dK (kvs.map kvR))) ha (fun ps z => by cases z)).set_v j (d := .dic (kvs.map kvD)) (v := .ref a) (by unfold Rep; exact ⟨a, _, rfl, .inr ⟨o, kn_at⟩, repk_raw kvs⟩)
    exact hr.sim w0 H0 _ _ _ _ S _ Dn ⟨st2, a, o, List.getElem?_set_self (by rw [← st.l1]; exact hjl), kn_at, ro⟩ (p.mono l)⟩
theorem bR_asg {i j : Nat} {x : Str} {pos' : Pos} (he : SE X Y W e te me) (hr : SBR X Y W j kvs ss u n) (hN : X.N.Nodup) (hij : i ≠ j := by decide) (hi : X.N[i]? = some x := by rfl) (hx : X.env.scope.names.lookup x = some .local := by rfl) (hs : swapsWith e (some (.Name x pos')) pos.line X.env = pure false := by rfl) :
    SBR X Y W j kvs (.Assign [.Name x pos'] e pos :: ss) (tSeq (tAsg te (gName i)) u) (sSeq (sAsg me (gN i)) n) :=
  ⟨pss_cons (ps_set hN hi (.inl hx) he.pe hs (.inr hx)) hr.pss, fun w0 H0 w H σ env S O Dn kr p => by
    obtain ⟨st, a, o, ej, ga, ro⟩ := kr
    refine he.sim w0 H0 w H σ env S O _ st ?_
    unfold sSeq sAsg at p
    cases q : me env S with
    | stuck => rw [q] at p; exact p
    | exc c b S1 =>
      rw [q] at p
      exact fun w1 H1 cls dx st1 l1 x => p w1 H1 σ O cls dx st1 l1 x
    | ok d S1 =>
      rw [q] at p
      intro w1 H1 st1 l1 v r
      have p : PostS Y W w0 H0 w Dn (n (env.set i (.v d)) S1) := p
      exact hr.sim w0 H0 w1 H1 _ _ S1 _ Dn ⟨st1.set_v i r, a, o, by rw [List.getElem?_set_ne hij]; exact ej, l1.ex _ _ ga, ro⟩ (p.mono l1)⟩
theorem bR_repl {ik iv j : Nat} {tx nm dn : Str} {p1 p2 p3 p4 p5 p6 p7 p8 p9 apos cpos : Pos} (hr : SB X Y W ss u n) (hp : PassesOwn (model X.prog X.w) X.A X.env X.xe) (hN : X.N.Nodup) (nd : (kvs.map (·.1)).Nodup := by decide +kernel) (hc : X.calm = true := by rfl)
    (hit : X.N[ik]? = some tx := by rfl) (hin : X.N[iv]? = some nm := by rfl) (hlt : X.env.scope.names.lookup tx = some .local := by rfl) (hln : X.env.scope.names.lookup nm = some .local := by rfl) (hid : X.N[j]? = some dn := by rfl) (hvd : Vis X.env.scope dn := by first | exact Or.inl rfl | exact Or.inr (Or.inl rfl) | exact Or.inr (Or.inr rfl)) (n1 : iv ≠ ik := by decide) (n2 : iv ≠ j := by decide) (n3 : ik ≠ j := by decide)
    (dt : (tx == ("__debug__" : Str)) = false := by decide) (ct : (tx == ("__classdict__" : Str)) = false := by decide) (dm : (nm == ("__debug__" : Str)) = false := by decide) (dd : (dn == ("__debug__" : Str)) = false := by decide) (cd : (dn == ("__classdict__" : Str)) = false := by decide)
    (hst : starEach [.Name nm p5, .Subscript (.Name dn p6) (.Name nm p7) p8] X.env = [(false, eval (.Name nm p5) X.env), (false, eval (.Subscript (.Name dn p6) (.Name nm p7) p8) X.env)] := by rfl)
    (hbase : attributeBase (.Name tx p4) "replace" X.env (eval (.Name tx p4) X.env) = eval (.Name tx p4) X.env := by rfl) (hline : (apos.endLine == cpos.line) = true := by rfl)
    (hsw : swapsWith (.Call (.Attribute (.Name tx p4) "replace" apos) [.Name nm p5, .Subscript (.Name dn p6) (.Name nm p7) p8] [] cpos) (some (.Name tx p3)) p9.line X.env = pure false := by rfl)
    (hs : ∀ x, foldedSetIterable (.Name dn p2) X.env x = pure x := by intro _; rfl) :
    SBR X Y W j kvs (.For (.Name nm p1) (.Name dn p2) [.Assign [.Name tx p3] (.Call (.Attribute (.Name tx p4) "replace" apos) [.Name nm p5, .Subscript (.Name dn p6) (.Name nm p7) p8] [] cpos) p9] [] pos :: ss) (tSeq (tReplD j iv ik kvs) u) (sReplD iv ik kvs n) :=
  ⟨pss_cons (ps_replD hp hc hN hit hin hlt hln hid hvd n1 n2 n3 dt ct dm dd cd hst hbase hline hsw hs) hr.pss, fun w0 H0 w H σ env S O Dn kr p => by
    obtain ⟨st, a, o, ej, ga, ro⟩ := kr
    unfold sReplD at p
    cases z : env[ik]? with
    | none => rw [z] at p; exact False.elim p
    | some sl =>
      rw [z] at p
      cases sl with
      | no => exact False.elim p
      | o c => exact False.elim p
      | v d =>
        cases d with
        | str x =>
          by_cases f : fitB kvs x = true
          · have p : PostS Y W w0 H0 w Dn (if fitB kvs x = true then n (goE iv ik kvs x env) S else .stuck) := p
            rw [if_pos f] at p
            obtain ⟨O2, st2⟩ := st_go iv ik kvs x st
            have hx : σ[ik]? = some (some (.str x)) := by
              have li : ik < env.length := (List.getElem?_eq_some_iff.mp z).1
              have l1 : ik < σ.length := by rw [← st.l1]; exact li
              have l2 : ik < O.length := by rw [st.l2]; exact l1
              obtain ⟨_, v, e1, r⟩ := st.sl ik _ σ[ik] O[ik] z (List.getElem?_eq_getElem l1) (List.getElem?_eq_getElem l2)
              rw [List.getElem?_eq_getElem l1, e1, rep_str r]
            exact ⟨a, o, x, ej, hx, st.ok.ex _ _ ga, ro, nd, fitB_R kvs x f, hr.sim w0 H0 w H _ _ S O2 Dn st2 p⟩
          · have p : PostS Y W w0 H0 w Dn (if fitB kvs x = true then n (goE iv ik kvs x env) S else .stuck) := p
            rw [if_neg f] at p
            exact False.elim p
        | _ => exact False.elim p⟩
end
end Mm
namespace Mm
open PySem PySem.Spec PyProof.Rows L2
section
variable {X : Cx} {Y : Gam} {W : WX} {st : Stmt} {ss : List Stmt} {t u : TS} {m n : MS} {te : TE} {me : ME} {e elt tg iter : Expr} {ifs : List Expr} {pos : Pos} {kvs : List (Str × Str)} {scope : Scope} {own : List (Str × Nat)} {is : List Nat} {g : TG} {mg : MG} {wi : TI} {mi : MI} {tt : TT} {mt : MT}
theorem bR_g {i j : Nat} (hp : PS X st (tAsg te (gName i))) (he : SimE Y W te me) (hr : SBR X Y W j kvs ss u n) (hij : i ≠ j) : SBR X Y W j kvs (st :: ss) (tSeq (tAsg te (gName i)) u) (sSeq (sAsg me (gN i)) n) :=
  ⟨pss_cons hp hr.pss, fun w0 H0 w H σ env S O Dn kr p => by
    obtain ⟨st, a, o, ej, ga, ro⟩ := kr
    refine he w0 H0 w H σ env S O _ st ?_
    unfold sSeq sAsg at p
    cases q : me env S with
    | stuck => rw [q] at p; exact p
    | exc c b S1 =>
      rw [q] at p
      exact fun w1 H1 cls dx st1 l1 x => p w1 H1 σ O cls dx st1 l1 x
    | ok d S1 =>
      rw [q] at p
      intro w1 H1 st1 l1 v r
      have p : PostS Y W w0 H0 w Dn (n (env.set i (.v d)) S1) := p
      exact hr.sim w0 H0 w1 H1 _ _ S1 _ Dn ⟨st1.set_v i r, a, o, by rw [List.getElem?_set_ne hij]; exact ej, l1.ex _ _ ga, ro⟩ (p.mono l1)⟩
theorem bR_lc {i j : Nat} {y : Str} {py spos : Pos} (hN : X.N.Nodup) (hy : X.N[i]? = some y) (hyl : X.env.scope.names.lookup y = some .local) (hsw : swapsWith (.ListComp elt [⟨tg, iter, ifs, 0⟩] scope pos) (some (.Name y py)) spos.line X.env = pure true)
    (hi : SI X Y W tg iter wi mi) (ok : BlkOk X.N X.env.scope scope own) (hg : ∀ (s : Shared) (H : Hp) (C : Addr) (cl : List (Str × Addr)) (fp : List Addr), SG (X.blk s H scope (compEnvC scope cl C X.env) fp) Y is tg g mg)
    (ht : ∀ (s : Shared) (H : Hp) (C : Addr) (cl : List (Str × Addr)) (fp : List Addr), ST (X.blk s H scope (compEnvC scope cl C X.env) fp) Y W0 ifs tt mt)
    (he : ∀ (s : Shared) (H : Hp) (C : Addr) (cl : List (Str × Addr)) (fp : List Addr), SE (X.blk s H scope (compEnvC scope cl C X.env) fp) Y W0 elt te me) (hr : SBR X Y W j kvs ss u n) (hij : i ≠ j := by decide) (hv : ∀ i ∈ is, i ∈ own.map (·.2) := by decide) (hc : X.calm = true := by rfl) (hs : ∀ x, foldedSetIterable iter X.env x = pure x := by intro _; rfl) :
    SBR X Y W j kvs (.Assign [.Name y py] (.ListComp elt [⟨tg, iter, ifs, 0⟩] scope pos) spos :: ss) (tSeq (tAsg (tLc wi g tt te (own.map (·.2))) (gName i)) u) (sSeq (sAsg (mFrz (fLc mi mg mt me (own.map (·.2)))) (gN i)) n) :=
  bR_g (ps_lc hN hy hyl hsw hi ok hg ht he hc hs) (sim_frz (sim_lc hi.sim (hg X.s_0 X.H_0 0 [] []).sim hv (ht X.s_0 X.H_0 0 [] []).sim (he X.s_0 X.H_0 0 [] []).sim)) hr hij
end
section
variable {X : Cx} {Y : Gam} {W : WX} {o e : Expr} {to te : TE} {mo me : ME} {apos pos : Pos}
def eCntS (ma mb : ME) : ME := fun env S => (ma env S).bind fun a S1 => match a with
  | .str x => (mb env S1).bind fun b S2 => (match b with
    | .str y => .ok (.int (Txt.count x y)) S2
    | _ => .stuck)
  | _ => .stuck
theorem s_cntS (ho : SE X Y W o to mo) (he : SE X Y W e te me) (hs : starEach [e] X.env = [(false, eval e X.env)] := by rfl) (hbase : attributeBase o "count" X.env (eval o X.env) = eval o X.env := by rfl) (hline : (apos.endLine == pos.line) = true := by rfl) :
    SE X Y W (.Call (.Attribute o "count" apos) [e] [] pos) (tM1 (fun x xs H Q => ∃ a b, x = .str a ∧ xs = [.str b] ∧ Q (.int (Txt.count a b)) H) to te) (eCntS mo me) := ⟨pe_m1 PySem.F.slot_str_count PySem.F.type_str_count mt_count ho.pe he.pe hs hbase hline, fun w0 H0 w H σ env S O Q st p =>
  ho.sim w0 H0 w H σ env S O _ st ((PostX.bind p).imp fun a S1 w1 H1 st1 l1 p1 va ra => by
    split at p1
    · rename_i x
      refine ⟨⟨x, rep_str ra⟩, he.sim w0 H0 w1 H1 σ env S1 O _ st1 ((PostX.bind p1).imp fun b S2 w2 H2 st2 l2 p2 vb rb => ?_)⟩
      split at p2
      · rename_i y
        exact ⟨x, y, rep_str ra, by rw [rep_str rb], p2 w2 H2 st2 (.refl w2) _ (by unfold Rep; rfl)⟩
      · exact False.elim p2
    · exact False.elim p1)⟩
@[simp] theorem eCntS_eq (ma mb : ME) (env : Envr) (S : Sto) : eCntS ma mb env S = (ma env S).bind fun a S1 => match a with
  | .str x => (mb env S1).bind fun b S2 => (match b with
    | .str y => .ok (.int (Txt.count x y)) S2
    | _ => .stuck)
  | _ => .stuck := rfl
end
end Mm
namespace K68
open PySem L2 Mm Fb
noncomputable def m_Table_berth_now_k68 : MFn := mFn 2 (sSeq (sIf (cAnd (cB (eOp fIsNot (eFld "Table" "move" (eV 0)) (eC .non))) (cB eDead)) (sRet eDead) sNil)
    (sRet (eOp fIx (eFld "Table" "grip" (eV 0)) (eV 1))))
noncomputable def m_Body_held_k68 : MFn := mFn 4 (sSeq (sAsg (eMeth "Body" "need" m_Body_need [] (eV 0) (aCons (eV 1) aNil)) (gN 3))
    (sSeq (sIf (cOr (cB (eOp iLt (eV 2) (eC (.int 0)))) (cB (eOp iGe (eV 2) (eCB fLen (aCons (eFld "Table" "grip" (eV 3)) aNil))))) (sRaise "NoBerth") sNil)
    (sRet (eMeth "Table" "berth_now" m_Table_berth_now_k68 [] (eV 3) (aCons (eV 2) aNil)))))
noncomputable def m_law : MFn := mFn 28 (sSeq (sCell 1 (fCall m__law_box [] (aCons (eV 0) aNil)))
    (sSeq (sAsg (eCall m__law_wide [] (aCons (eV 1) aNil)) (gN 2))
    (sSeq (sAsg (eOp dAdd (eOp fIx (eV 2) (eC (.int 0))) (eOp fIx (eV 2) (eC (.int 1)))) (gN 3))
    (sSeq (sAsg (eCB fMax2 (aCons (eC (.int 0)) (aCons (eOp iSub (eV 3) (eCall m__law_take [] (aCons (eV 1) (aCons (eC (.int 2)) aNil)))) aNil))) (gN 4))
    (sSeq (sOwn 5 (fLst aNil))
    (sSeq (sFor (itL (eCall m__law_shuffled [] (aCons (eV 1) (aCons (mFrz (fLst (aCons (eC (.str "row")) (aCons (eC (.str "col")) (aCons (eC (.str "deep")) aNil))))) aNil)))) (gN 6) (sSeq (sAsg (eIf (cB (eOp iLt (eLenA 5) (eC (.int 2)))) (eCall m__law_take [] (aCons (eV 1) (aCons (eOp dAdd (eV 4) (eC (.int 1))) aNil))) (eV 4)) (gN 7))
    (sSeq (sApp 5 (eTup (aCons (eV 6) (aCons (eV 7) aNil))))
    (sAug 4 (fun i j => i - j) (eV 7)))))
    (sFrz 5 (sSeq (sAsg (eCB fSum (aCons (mFrz (fLc (itL (eV 5)) (gN 24) cYes (eOp fIx (eV 24) (eC (.int 1))) [24])) aNil)) (gN 8))
    (sSeq (sAsg (eCall m__law_lines [] (aCons (eV 1) (aCons (eV 3) (aCons (eV 8) aNil)))) (gN 9))
    (sFrz 5 (sSeq (sAsg (eCall m_spread_text [] (aCat (aCons (eV 9) (aCons (eV 5) aNil)) (aCons (eOp fIx (eV 2) (eC (.int 0))) (aCons (eOp fIx (eV 2) (eC (.int 1))) aNil)))) (gN 10))
    (sSeq (sAsg (eCall m_read_spread [] (aCat (aCons (eV 10) (aCons (eV 5) aNil)) (aCons (eOp fIx (eV 2) (eC (.int 0))) (aCons (eOp fIx (eV 2) (eC (.int 1))) aNil)))) (gN 11))
    (sSeq (sAsg (eNewC "Body" m_BodyU_initU [] (aCat (aCons (eOp fIx (eV 2) (eC (.int 0))) (aCons (eOp fIx (eV 2) (eC (.int 1))) aNil)) (aCons (eOp fIx (eV 2) (eC (.int 2))) aNil))) (gN 12))
    (sSeq (sAsg (eCall m__law_cells [] (aCons (eV 1) (aCons (eV 8) aNil))) (gN 13))
    (sSeq (sExpr (eMeth "Body" "lay" m_Body_lay [] (eV 12) (aCons (eC (.str "b")) (aCons (eV 11) (aCons (eV 13) aNil)))))
    (sSeq (sAsg (mFrz (fLc (itR1 (aCons (eOp iShl (eC (.int 1)) (eV 3)) aNil)) (gN 25) cYes (eMeth "Body" "held" m_Body_held_k68 [] (eV 12) (aCons (eC (.str "b")) (aCons (eV 25) aNil))) [25])) (gN 14))
    (sSeq (sIf (cOr (cB (eOp fNe (eV 11) (eV 9))) (cB (eOp fNe (eV 14) (mFrz (fLc (itL (eCall m__law_images [] (aCons (eV 9) aNil))) (gN 26) cYes (eOp fIx (eV 13) (eV 26)) [26]))))) (sRet (eC (.bl false))) sNil)
    (sSeq (sIf (cB (eOp fNe (eCntS (eV 10) (eC (.str "="))) (eCB fLen (aCons (mFrz (fLc (itL (eV 9)) (gN 27) (cB (eOp iGt (eV 27) (eC (.int 0)))) (eV 27) [27])) aNil)))) (sRet (eC (.bl false))) sNil)
    (sRawD 15 [("row", "x"), ("col", "yy"), ("deep", "zzzzzz")]
    (sSeq (sAsg (mFrz (fLc (itL (eV 5)) (gT (gNC (gN 6) (gNC (gN 7) gN0))) cYes (eTup (aCons (eDGetA 15 (eV 6)) (aCons (eV 7) aNil))) [6, 7])) (gN 16))
    (sSeq (sAsg (eCall m_spread_text [] (aCat (aCons (eV 9) (aCons (eV 16) aNil)) (aCons (eOp fIx (eV 2) (eC (.int 0))) (aCons (eOp fIx (eV 2) (eC (.int 1))) aNil)))) (gN 17))
    (sReplD 6 10 [("row", "x"), ("col", "yy"), ("deep", "zzzzzz")]
    (sSeq (sIf (cB (eOp fNe (eV 17) (eV 10))) (sRet (eC (.bl false))) sNil)
    (sSeq (sAsg (eCall m__law_shuffled [] (aCons (eV 1) (aCons (mFrz (fLstR1 (eC (.int 3)))) aNil))) (gN 18))
    (sFrz 5 (sSeq (sAsg (eCall m_spread_text [] (aCat (aCons (eV 9) (aCons (eV 5) aNil)) (aPick [1, 0] (aCons (eOp fIx (eV 2) (eC (.int 1))) (aCons (eOp fIx (eV 2) (eC (.int 0))) aNil))))) (gN 10))
    (sFrz 5 (sSeq (sAsg (mFrz (fLc (itL (eV 18)) (gN 22) cYes (eIxA 5 (eV 22)) [22])) (gN 19))
    (sSeq (sAsg (eCall m_read_spread [] (aCat (aCons (eV 10) (aCons (eV 19) aNil)) (aCons (eOp fIx (eV 2) (eC (.int 0))) (aCons (eOp fIx (eV 2) (eC (.int 1))) aNil)))) (gN 16))
    (sSeq (sAsg (mFrz (fLst aNil)) (gN 20))
    (sFrz 5 (sSeq (sAsg (mFrz (fLc (itR1 (aCons (eC (.int 3)) aNil)) (gN 22) cYes (eCB fSum (aCons (mFrz (fLc (itL (mFrz (fSl (eV 5) oNone (oSome (eV 22))))) (gT (gNC (gN 6) (gNC (gN 7) gN0))) cYes (eV 7) [6, 7])) aNil)) [22])) (gN 21))
    (sSeq (sFor (itL (eV 18)) (gN 22) (sFrz 5 (sAsg (eOp dAdd (eV 20) (mFrz (fLc (itR1 (aCons (eOp fIx (eIxA 5 (eV 22)) (eC (.int 1))) aNil)) (gN 25) cYes (eOp dAdd (eOp fIx (eV 21) (eV 22)) (eV 25)) [25]))) (gN 20))))
    (sSeq (sAsg (eNew "Fold" m_FoldU_initU [] (aCons (mFrz (fLc (itR1 (aCons (eV 8) aNil)) (gN 22) cYes (eOp iShl (eC (.int 1)) (eIdx (eV 20) (eV 22))) [22])) (aCons (eV 8) aNil))) (gN 23))
    (sRet (eOp fEq (eMeth "Fold" "rows" m_Fold_rows [] (eMeth "Fold" "then" m_Fold_then [] (eNew "Fold" m_FoldU_initU [] (aCons (eV 9) (aCons (eV 8) aNil))) (aCons (eV 23) aNil)) aNil) (eV 16)))))))))))))))))))))))))))))))))))))
end K68
namespace K68
open PySem L2 Mm Fb
section
variable {P : Program} {w : World} {K : PySem.W.Frag} {mg : Str → Option Value} {base : Heap} {ca : Str → Addr} {T : List (Addr × Str)}
abbrev N_BadTextU_initU : List Str := ["self", "at"]
theorem sc_BadTextU_initU : FnScope N_BadTextU_initU ["self", "at"] (defScope s_BadTextU_initU) := ⟨rfl, rfl, rfl, by decide +kernel, rfl, by decide +kernel, by decide +kernel⟩
theorem ok_BadTextU_initU {f : Addr} {fd : FuncData} (F : FnPk K "__init__" "BadText.__init__" s_BadTextU_initU [] [] f fd) (gB : mg "FoldError" = some (.ref ((GY K ca T).ca "FoldError"))) (b : BasI K ((GY K ca T).ca "FoldError")) : FnOk P w K mg base (L2N.CX P w) 1 f fd ["self", "at"] (spX K "at") :=
  F.ok sc_BadTextU_initU (fun vs H Q E h => by obtain ⟨_, _, _, rfl, _⟩ := h; rfl) fun cdv A outer s H vs Q E hr h => ⟨_, pss_cons (ps_expr (pe_feinit (x := "FoldError") rfl gB b (pa_cons (sv (Y := GY K ca T) (W := W0) 0).pe (pa_cons (s_str (Y := GY K ca T) (W := W0)).pe pa_nil)))) (pss_one (ps_ost (sv (Y := GY K ca T) (W := W0) 0).pe (sv (Y := GY K ca T) (W := W0) 1).pe)), xinit_post rfl h⟩
abbrev N_NoTableU_initU : List Str := ["self", "name"]
theorem sc_NoTableU_initU : FnScope N_NoTableU_initU ["self", "name"] (defScope s_NoTableU_initU) := ⟨rfl, rfl, rfl, by decide +kernel, rfl, by decide +kernel, by decide +kernel⟩
theorem ok_NoTableU_initU {f : Addr} {fd : FuncData} (F : FnPk K "__init__" "NoTable.__init__" s_NoTableU_initU [] [] f fd) (gB : mg "FoldError" = some (.ref ((GY K ca T).ca "FoldError"))) (b : BasI K ((GY K ca T).ca "FoldError")) : FnOk P w K mg base (L2N.CX P w) 1 f fd ["self", "name"] (spX K "name") :=
  F.ok sc_NoTableU_initU (fun vs H Q E h => by obtain ⟨_, _, _, rfl, _⟩ := h; rfl) fun cdv A outer s H vs Q E hr h => ⟨_, pss_cons (ps_expr (pe_feinit (x := "FoldError") rfl gB b (pa_cons (sv (Y := GY K ca T) (W := W0) 0).pe (pa_cons (s_str (Y := GY K ca T) (W := W0)).pe pa_nil)))) (pss_one (ps_ost (sv (Y := GY K ca T) (W := W0) 0).pe (sv (Y := GY K ca T) (W := W0) 1).pe)), xinit_post rfl h⟩
abbrev N__law_box : List Str := ["_law_script"]
theorem sc__law_box : FnScope N__law_box ["_law_script"] (defScope s__law_box) := ⟨rfl, rfl, rfl, by decide +kernel, rfl, by decide +kernel, by decide +kernel⟩
theorem ok__law_box {f : Addr} {fd : FuncData} (F : FnPk K "_law_box" "_law_box" s__law_box [] [] f fd) (B : Bl mg) : FnOk P w K mg base (L2N.CX P w) 1 f fd ["_law_script"] (spOf (GY K ca T) 1 m__law_box) :=
  fn_sim (GY K ca T) F sc__law_box rfl fun cdv A outer s H E hr tk po => by
  have nd := sc__law_box.nd
  exact ⟨_, (b_one (t_retF (f_lst (a_cons (SF.val (f_ct co_list call_list_of B.list PyProof.Rows.boot_list (a_cons (SF.val (f_sl (sv 0) o_none (o_some s_int))) a_nil))) (a_cons s_int (a_cons s_int (a_cons s_int a_nil)))))))⟩
abbrev N__law_take : List Str := ["_law_box_z", "_law_sides", "_law_tail", "_law_cell", "_law_seed"]
theorem sc__law_take : FnScope N__law_take ["_law_box_z", "_law_sides"] (defScope s__law_take) := ⟨rfl, rfl, rfl, by decide +kernel, rfl, by decide +kernel, by decide +kernel⟩
theorem ok__law_take {f : Addr} {fd : FuncData} (F : FnPk K "_law_take" "_law_take" s__law_take [] [] f fd) (B : Bl mg) : FnOk P w K mg base (L2N.CX P w) 1 f fd ["_law_box_z", "_law_sides"] (spOf (GY K ca T) 2 m__law_take) :=
  fn_sim (GY K ca T) F sc__law_take rfl fun cdv A outer s H E hr tk po => by
  have nd := sc__law_take.nd
  exact ⟨_, (b_cons (t_if (c_cmp od_gt op_gt (s_ix od_ix ix_lt (sv 0) s_int (fun _ _ => rfl)) s_int (nomark _)) (b_cons (u_set 2 (s_ix od_ix ix_lt (sv 0) s_int (fun _ _ => rfl)) nd)
    (b_cons (t_put 0 s_int (s_op od_div op_fdivN (sv 2) (sv 1)))
    (b_one (t_ret (s_op od_mod op_modN (sv 2) (sv 1)))))) b_nil)
    (b_cons (u_set 3 s_int nd)
    (b_cons (t_if (c_cmp od_lt op_lt (s_ix od_ix ix_lt (sv 0) s_int (fun _ _ => rfl)) (s_cb cd_len cr_len B.len PySem.boot_len (a_cons (s_ix od_ix ix_lt (sv 0) s_int (fun _ _ => rfl)) a_nil)) (nomark _)) (b_cons (u_set 3 (s_ix od_ix ix_lt (s_ix od_ix ix_lt (sv 0) s_int (fun _ _ => rfl)) (s_ix od_ix ix_lt (sv 0) s_int (fun _ _ => rfl)) (fun _ _ => rfl)) nd)
    (b_one (t_augC ip_add (sv 0) s_int s_int))) b_nil)
    (b_cons (t_if (c_cmp od_ge op_ge (sv 3) (s_op od_pow op_pow s_int s_int) (nomark _)) (b_cons (t_put 0 s_int (s_op od_div op_fdivN (sv 3) (sv 1)))
    (b_one (t_ret (s_op od_mod op_modN (sv 3) (sv 1))))) b_nil)
    (b_cons (u_set 4 (s_ix od_ix ix_lt (sv 0) s_int (fun _ _ => rfl)) nd)
    (b_cons (t_put 0 s_int (s_op od_mod op_modN (s_op od_add op_addD (s_op od_add op_addD (s_op od_add op_addD (s_op od_pow op_pow (sv 4) s_int) (s_op od_mul op_mul s_int (sv 4))) (s_op od_mul op_mul s_int (s_op od_mod op_modN (sv 3) s_int))) s_int) s_int))
    (b_one (t_ret (s_op od_mod op_modN (s_op od_div op_fdivN (s_ix od_ix ix_lt (sv 0) s_int (fun _ _ => rfl)) s_int) (sv 1))))))))))⟩
abbrev N__law_of : List Str := ["_law_box_z", "_law_some"]
theorem sc__law_of : FnScope N__law_of ["_law_box_z", "_law_some"] (defScope s__law_of) := ⟨rfl, rfl, rfl, by decide +kernel, rfl, by decide +kernel, by decide +kernel⟩
theorem ok__law_of {f : Addr} {fd : FuncData} (F : FnPk K "_law_of" "_law_of" s__law_of [] [] f fd) (B : Bl mg) (h__law_take : Kn P w K mg base (GY K ca T) 1 "_law_take" 2 m__law_take [] []) : FnOk P w K mg base (L2N.CX P w) 2 f fd ["_law_box_z", "_law_some"] (spOf (GY K ca T) 2 m__law_of) :=
  fn_sim (GY K ca T) F sc__law_of rfl fun cdv A outer s H E hr tk po => by
  have nd := sc__law_of.nd
  exact ⟨_, (b_one (t_ret (s_ix od_ix ix_lt (sv 1) (u_call h__law_take (hr.mono (by decide)) tk (a_cons (sv 0) (a_cons (s_cb cd_len cr_len B.len PySem.boot_len (a_cons (sv 1) a_nil)) a_nil))) (fun _ _ => rfl))))⟩
abbrev N__law_wide : List Str := ["_law_box_z", "_law_some"]
theorem sc__law_wide : FnScope N__law_wide ["_law_box_z"] (defScope s__law_wide) := ⟨rfl, rfl, rfl, by decide +kernel, rfl, by decide +kernel, by decide +kernel⟩
theorem ok__law_wide {f : Addr} {fd : FuncData} (F : FnPk K "_law_wide" "_law_wide" s__law_wide [] [] f fd) (h__law_of : Kn P w K mg base (GY K ca T) 2 "_law_of" 2 m__law_of [] []) : FnOk P w K mg base (L2N.CX P w) 3 f fd ["_law_box_z"] (spOf (GY K ca T) 1 m__law_wide) :=
  fn_sim (GY K ca T) F sc__law_wide rfl fun cdv A outer s H E hr tk po => by
  have nd := sc__law_wide.nd
  exact ⟨_, (b_cons (u_own 1 (f_lst (a_cons (s_tup (a_cons s_int (a_cons s_int (a_cons s_int a_nil)))) (a_cons (s_tup (a_cons s_int (a_cons s_int (a_cons s_int a_nil)))) (a_cons (s_tup (a_cons s_int (a_cons s_int (a_cons s_int a_nil)))) (a_cons (s_tup (a_cons s_int (a_cons s_int (a_cons s_int a_nil)))) (a_cons (s_tup (a_cons s_int (a_cons s_int (a_cons s_int a_nil)))) a_nil)))))) nd)
    (b_cons (t_ext 1 (SF.val (f_lst (a_cons (s_tup (a_cons s_int (a_cons s_int (a_cons s_int a_nil)))) (a_cons (s_tup (a_cons s_int (a_cons s_int (a_cons s_int a_nil)))) (a_cons (s_tup (a_cons s_int (a_cons s_int (a_cons s_int a_nil)))) (a_cons (s_tup (a_cons s_int (a_cons s_int (a_cons s_int a_nil)))) (a_cons (s_tup (a_cons s_int (a_cons s_int (a_cons s_int a_nil)))) a_nil))))))) nd)
    (b_frz 1 (b_one (t_ret (u_call h__law_of (hr.mono (by decide)) tk (a_cons (sv 0) (a_cons (sv 1) a_nil))))))))⟩
abbrev N__law_shuffled : List Str := ["_law_box_z", "_law_some", "_law_found", "_law_one"]
theorem sc__law_shuffled : FnScope N__law_shuffled ["_law_box_z", "_law_some"] (defScope s__law_shuffled) := ⟨rfl, rfl, rfl, by decide +kernel, rfl, by decide +kernel, by decide +kernel⟩
theorem ok__law_shuffled {f : Addr} {fd : FuncData} (F : FnPk K "_law_shuffled" "_law_shuffled" s__law_shuffled [] [] f fd) (B : Bl mg) (h__law_take : Kn P w K mg base (GY K ca T) 1 "_law_take" 2 m__law_take [] []) : FnOk P w K mg base (L2N.CX P w) 2 f fd ["_law_box_z", "_law_some"] (spOf (GY K ca T) 2 m__law_shuffled) :=
  fn_sim (GY K ca T) F sc__law_shuffled rfl fun cdv A outer s H E hr tk po => by
  have nd := sc__law_shuffled.nd
  exact ⟨_, (b_cons (u_own 2 (f_lst a_nil) nd)
    (b_cons (t_for po (i_seq (sv 1)) (u_g 3 nd) (b_one (t_ins 2 (u_call h__law_take (hr.mono (by decide)) tk (a_cons (sv 0) (a_cons (s_op od_add op_addD (u_lenA 2 B.len) s_int) a_nil))) (sv 3))))
    (b_one (t_retO 2))))⟩
abbrev N__law_numbers : List Str := ["_law_box_z", "_law_count", "_law_many", "_law_at"]
theorem sc__law_numbers : FnScope N__law_numbers ["_law_box_z", "_law_count", "_law_many"] (defScope s__law_numbers) := ⟨rfl, rfl, rfl, by decide +kernel, rfl, by decide +kernel, by decide +kernel⟩
theorem ok__law_numbers {f : Addr} {fd : FuncData} (F : FnPk K "_law_numbers" "_law_numbers" s__law_numbers [] [] f fd) (B : Bl mg) (h__law_take : Kn P w K mg base (GY K ca T) 1 "_law_take" 2 m__law_take [] []) : FnOk P w K mg base (L2N.CX P w) 2 f fd ["_law_box_z", "_law_count", "_law_many"] (spOf (GY K ca T) 3 m__law_numbers) :=
  fn_sim (GY K ca T) F sc__law_numbers rfl fun cdv A outer s H E hr tk po => by
  have nd := sc__law_numbers.nd
  exact ⟨_, (b_one (t_retF (f_lc (own := [("_law_at", 3)]) nd (i_range1 B.range (a_cons (sv 1) a_nil)) (blkOk_by (own := [("_law_at", 3)]) (N := N__law_numbers) (sc := defScope s__law_numbers) (by decide +kernel)) (fun _ _ _ _ _ => (u_g 3 nd)) (fun _ _ _ _ _ => ts_nil) (fun _ _ _ _ _ => (u_call h__law_take (hr.mono (by decide)) takesN (a_cons (sv 0) (a_cons (s_op od_shl op_shl s_int (sv 2)) a_nil)))))))⟩
abbrev N__law_lines : List Str := ["_law_box_z", "_law_deep", "_law_many", "_law_lines_here", "_law_turn", "_law_one", "_law_far", "_law_at", "_law_line"]
theorem sc__law_lines : FnScope N__law_lines ["_law_box_z", "_law_deep", "_law_many"] (defScope s__law_lines) := ⟨rfl, rfl, rfl, by decide +kernel, rfl, by decide +kernel, by decide +kernel⟩
theorem ok__law_lines {f : Addr} {fd : FuncData} (F : FnPk K "_law_lines" "_law_lines" s__law_lines [] [] f fd) (B : Bl mg) (h__law_numbers : Kn P w K mg base (GY K ca T) 2 "_law_numbers" 3 m__law_numbers [] []) (h__law_shuffled : Kn P w K mg base (GY K ca T) 2 "_law_shuffled" 2 m__law_shuffled [] []) (h__law_take : Kn P w K mg base (GY K ca T) 1 "_law_take" 2 m__law_take [] []) : FnOk P w K mg base (L2N.CX P w) 3 f fd ["_law_box_z", "_law_deep", "_law_many"] (spOf (GY K ca T) 3 m__law_lines) :=
  fn_sim (GY K ca T) F sc__law_lines rfl fun cdv A outer s H E hr tk po => by
  have nd := sc__law_lines.nd
  exact ⟨_, (b_cons (t_ownLc (i := 3) (own := [("_law_at", 7)]) nd rfl rfl (sw_true rfl rfl rfl (by decide +kernel)) (i_range1 B.range (a_cons (sv 2) a_nil)) (blkOk_by (own := [("_law_at", 7)]) (N := N__law_lines) (sc := defScope s__law_lines) (by decide +kernel)) (fun _ _ _ _ _ => (u_g 7 nd)) (fun _ _ _ _ _ => ts_nil) (fun _ _ _ _ _ => (s_op od_shl op_shl s_int (sv 7))))
    (b_frz 3 (b_cons (u_own 3 (v_call h__law_shuffled (hr.mono (by decide)) tk (a_cons (sv 0) (a_cons (s_op od_add op_addD (sv 3) (u_call h__law_numbers (hr.mono (by decide)) tk (a_cons (sv 0) (a_cons (s_op od_sub op_sub (sv 1) (sv 2)) (a_cons (sv 2) a_nil))))) a_nil))) nd)
    (b_cons (t_for po (i_range1 B.range (a_cons (s_op od_mul op_mul (u_call h__law_take (hr.mono (by decide)) tk (a_cons (sv 0) (a_cons s_int a_nil))) (s_ct cd_int call_int1 B.int PyProof.Rows.boot_int (a_cons (s_cmp od_gt op_gt (sv 1) s_int (nomark _)) a_nil))) a_nil)) (u_g 4 nd) (b_cons (u_set 5 (u_call h__law_take (hr.mono (by decide)) tk (a_cons (sv 0) (a_cons (sv 1) a_nil))) nd)
    (b_cons (u_set 6 (s_op od_add op_addD (s_op od_add op_addD (sv 5) s_int) (u_call h__law_take (hr.mono (by decide)) tk (a_cons (sv 0) (a_cons (s_op od_sub op_sub (sv 1) s_int) a_nil)))) nd)
    (b_one (t_put 3 (sv 5) (s_op od_xor op_xor (u_ixA 3 (sv 5) (fun _ _ => rfl)) (u_ixA 3 (s_op od_mod op_modN (sv 6) (sv 1)) (fun _ _ => rfl))))))))
    (b_cons (t_for po (i_range1 B.range (a_cons (s_op od_mul op_mul (u_call h__law_take (hr.mono (by decide)) tk (a_cons (sv 0) (a_cons s_int a_nil))) (s_ct cd_int call_int1 B.int PyProof.Rows.boot_int (a_cons (s_cmp od_gt op_gt (sv 2) s_int (nomark _)) a_nil))) a_nil)) (u_g 4 nd) (b_cons (u_set 5 (u_call h__law_take (hr.mono (by decide)) tk (a_cons (sv 0) (a_cons (sv 2) a_nil))) nd)
    (b_cons (u_set 6 (s_op od_mod op_modN (s_op od_add op_addD (s_op od_add op_addD (sv 5) s_int) (u_call h__law_take (hr.mono (by decide)) tk (a_cons (sv 0) (a_cons (s_op od_sub op_sub (sv 2) s_int) a_nil)))) (sv 2)) nd)
    (b_frz 3 (b_one (t_ownLc (i := 3) (own := [("_law_line", 8)]) nd rfl rfl (sw_true rfl rfl rfl (by decide +kernel)) (i_seq (sv 3)) (blkOk_by (own := [("_law_line", 8)]) (N := N__law_lines) (sc := defScope s__law_lines) (by decide +kernel)) (fun _ _ _ _ _ => (u_g 8 nd)) (fun _ _ _ _ _ => ts_nil) (fun _ _ _ _ _ => (s_op od_xor op_xor (sv 8) (s_op od_shl op_shl (s_op od_and op_and (s_op od_shr op_shr (sv 8) (sv 5)) s_int) (sv 6))))))))))
    (b_frz 3 (b_one (t_ret (s_ct cd_tup call_tuple_of B.tuple PyProof.Rows.boot_tuple (a_cons (sv 3) a_nil))))))))))⟩
abbrev N_is_name : List Str := ["name", "sign"]
theorem sc_is_name : FnScope N_is_name ["name"] (defScope s_is_name) := ⟨rfl, rfl, rfl, by decide +kernel, rfl, by decide +kernel, by decide +kernel⟩
theorem ok_is_name {f : Addr} {fd : FuncData} (F : FnPk K "is_name" "is_name" s_is_name [] [] f fd) (B : Bl mg) (c_SMALL : ∃ u, mg "SMALL" = some (.str "abcdefghijklmnopqrstuvwxyz" u)) : FnOk P w K mg base (L2N.CX P w) 1 f fd ["name"] (spOf (GY K ca T) 1 m_is_name) :=
  fn_sim (GY K ca T) F sc_is_name rfl fun cdv A outer s H E hr tk po => by
  have nd := sc_is_name.nd
  exact ⟨_, (b_one (t_ret (s_and (s_chain od_le od_le op_le op_le s_int (s_cb cd_len cr_len B.len PySem.boot_len (a_cons (sv 0) a_nil)) s_int) (s_one (s_cb cd_all (cr_all rfl) B.all (by decide +kernel : bootBuiltins "all" = some (.builtin "all")) (a_cons (SF.val (f_lc (own := [("sign", 1)]) nd (i_str (sv 0)) (blkOk_by (own := [("sign", 1)]) (N := N_is_name) (sc := defScope s_is_name) (by decide +kernel)) (fun _ _ _ _ _ => (u_g 1 nd)) (fun _ _ _ _ _ => ts_nil) (fun _ _ _ _ _ => (s_cmp od_sign or_sign (sv 1) (u_gstr c_SMALL) rfl)))) a_nil))))))⟩
abbrev N_need_sides : List Str := ["sides", "names", "name", "many"]
theorem sc_need_sides : FnScope N_need_sides ["sides"] (defScope s_need_sides) := ⟨rfl, rfl, rfl, by decide +kernel, rfl, by decide +kernel, by decide +kernel⟩
theorem ok_need_sides {f : Addr} {fd : FuncData} (F : FnPk K "need_sides" "need_sides" s_need_sides [] [] f fd) (B : Bl mg) (h_is_name : Kn P w K mg base (GY K ca T) 1 "is_name" 1 m_is_name [] []) (x_BadSides : KnX K mg (GY K ca T) "BadSides") (c_MOST_DIGITS : ∃ u, mg "MOST_DIGITS" = some (.int 12 u)) : FnOk P w K mg base (L2N.CX P w) 2 f fd ["sides"] (spOf (GY K ca T) 1 m_need_sides) :=
  fn_sim (GY K ca T) F sc_need_sides rfl fun cdv A outer s H E hr tk po => by
  have nd := sc_need_sides.nd
  exact ⟨_, (b_cons (t_setLc (i := 1) (own := [("name", 2), ("many", 3)]) nd rfl rfl (sw_true rfl rfl rfl (by decide +kernel)) (i_seq (sv 0)) (blkOk_by (own := [("name", 2), ("many", 3)]) (N := N_need_sides) (sc := defScope s_need_sides) (by decide +kernel)) (fun _ _ _ _ _ => (g_tup (gs_cons (u_g 2 nd) (gs_cons (u_g 3 nd) gs_nil)))) (fun _ _ _ _ _ => ts_nil) (fun _ _ _ _ _ => (sv 2)))
    (b_cons (t_if (SW.sc (w_or (c_not (c_val (s_cb cd_all (cr_all rfl) B.all (by decide +kernel : bootBuiltins "all" = some (.builtin "all")) (a_cons (SF.val (f_lc (own := [("name", 2)]) nd (i_seq (sv 1)) (blkOk_by (own := [("name", 2)]) (N := N_need_sides) (sc := defScope s_need_sides) (by decide +kernel)) (fun _ _ _ _ _ => (u_g 2 nd)) (fun _ _ _ _ _ => ts_nil) (fun _ _ _ _ _ => (u_call h_is_name (hr.mono (by decide)) takesN (a_cons (sv 2) a_nil))))) a_nil)))) (w_or1 (c_cmp od_lt op_lt (s_lenTx B.set B.len (sv 1)) (s_cb cd_len cr_len B.len PySem.boot_len (a_cons (sv 1) a_nil)) (nomark _))))) (b_one (u_raise x_BadSides tk)) b_nil)
    (b_cons (t_if (SW.sc (w_or (c_cmp od_inX op_in_seq s_str (sv 1) (by rfl)) (w_or1 (c_cmp od_inX op_in_seq s_str (sv 1) (by rfl))))) (b_one (u_raise x_BadSides tk)) b_nil)
    (b_cons (t_if (c_val (s_cb cd_any (cr_any rfl) B.any (by decide +kernel : bootBuiltins "any" = some (.builtin "any")) (a_cons (SF.val (f_lc (own := [("name", 2), ("many", 3)]) nd (i_seq (sv 0)) (blkOk_by (own := [("name", 2), ("many", 3)]) (N := N_need_sides) (sc := defScope s_need_sides) (by decide +kernel)) (fun _ _ _ _ _ => (g_tup (gs_cons (u_g 2 nd) (gs_cons (u_g 3 nd) gs_nil)))) (fun _ _ _ _ _ => ts_nil) (fun _ _ _ _ _ => (s_or (s_cmp od_lt op_lt (sv 3) s_int (nomark _)) (s_one (s_cmp od_gt op_gt (sv 3) (u_int c_MOST_DIGITS) (nomark _))))))) a_nil))) (b_one (u_raise x_BadSides tk)) b_nil)
    (b_one (t_if (c_cmp od_gt op_gt (s_cb cd_sum (cr_sum rfl) B.sum (by decide +kernel : bootBuiltins "sum" = some (.builtin "sum")) (a_cons (SF.val (f_lc (own := [("name", 2), ("many", 3)]) nd (i_seq (sv 0)) (blkOk_by (own := [("name", 2), ("many", 3)]) (N := N_need_sides) (sc := defScope s_need_sides) (by decide +kernel)) (fun _ _ _ _ _ => (g_tup (gs_cons (u_g 2 nd) (gs_cons (u_g 3 nd) gs_nil)))) (fun _ _ _ _ _ => ts_nil) (fun _ _ _ _ _ => (sv 3)))) a_nil)) (u_int c_MOST_DIGITS) (nomark _)) (b_one (u_raise x_BadSides tk)) b_nil))))))⟩
abbrev N_words_of : List Str := ["sides", "name", "many", "at"]
theorem sc_words_of : FnScope N_words_of ["sides"] (defScope s_words_of) := ⟨rfl, rfl, rfl, by decide +kernel, rfl, by decide +kernel, by decide +kernel⟩
theorem ok_words_of {f : Addr} {fd : FuncData} (F : FnPk K "words_of" "words_of" s_words_of [] [] f fd) (B : Bl mg) : FnOk P w K mg base (L2N.CX P w) 1 f fd ["sides"] (spOf (GY K ca T) 1 m_words_of) :=
  fn_sim (GY K ca T) F sc_words_of rfl fun cdv A outer s H E hr tk po => by
  have nd := sc_words_of.nd
  exact ⟨_, (b_one (t_retF (f_lc2 (own := [("name", 1), ("many", 2), ("at", 3)]) [3] nd (i_seq (sv 0)) (blkOk_by (own := [("name", 1), ("many", 2), ("at", 3)]) (N := N_words_of) (sc := defScope s_words_of) (by decide +kernel)) (fun _ _ _ _ _ => (g_tup (gs_cons (u_g 1 nd) (gs_cons (u_g 2 nd) gs_nil)))) (fun _ _ _ _ _ => ts_nil) (fun _ _ _ _ _ => (i_range1 B.range (a_cons (sv 2) a_nil))) (fun _ _ _ _ _ => (u_g 3 nd)) (fun _ _ _ _ _ => ts_nil) (fun _ _ _ _ _ => (s_fs (sj_cons (s_fmt (sv 1)) (sj_cons (s_fmt (sv 3)) sj_nil)))))))⟩
abbrev N_spread_text : List Str := ["rows", "sides", "box", "lane", "words", "found", "word", "row", "at", "one"]
theorem sc_spread_text : FnScope N_spread_text ["rows", "sides", "box", "lane"] (defScope s_spread_text) := ⟨rfl, rfl, rfl, by decide +kernel, rfl, by decide +kernel, by decide +kernel⟩
theorem ok_spread_text {f : Addr} {fd : FuncData} (F : FnPk K "spread_text" "spread_text" s_spread_text [] [("lane", .int 0)] f fd) (B : Bl mg) (h_need_sides : Kn P w K mg base (GY K ca T) 2 "need_sides" 1 m_need_sides [] []) (h_words_of : Kn P w K mg base (GY K ca T) 1 "words_of" 1 m_words_of [] []) (x_BadRows : KnX K mg (GY K ca T) "BadRows") : FnOk P w K mg base (L2N.CX P w) 3 f fd ["rows", "sides", "box", "lane"] (spOf (GY K ca T) 4 m_spread_text) :=
  fn_sim (GY K ca T) F sc_spread_text rfl fun cdv A outer s H E hr tk po => by
  have nd := sc_spread_text.nd
  exact ⟨_, (b_cons (t_expr (u_call h_need_sides (hr.mono (by decide)) tk (a_cons (sv 1) a_nil)))
    (b_cons (u_set 4 (u_call h_words_of (hr.mono (by decide)) tk (a_cons (sv 1) a_nil)) nd)
    (b_cons (t_if (SW.sc (w_or (c_cmp od_ne (op_neD hr.units) (s_cb cd_len cr_len B.len PySem.boot_len (a_cons (sv 0) a_nil)) (s_op od_add op_addD (sv 2) (sv 3)) (nomark _)) (w_or1 (c_val (s_cb cd_any (cr_any rfl) B.any (by decide +kernel : bootBuiltins "any" = some (.builtin "any")) (a_cons (SF.val (f_lc (own := [("row", 7)]) nd (i_seq (sv 0)) (blkOk_by (own := [("row", 7)]) (N := N_spread_text) (sc := defScope s_spread_text) (by decide +kernel)) (fun _ _ _ _ _ => (u_g 7 nd)) (fun _ _ _ _ _ => ts_nil) (fun _ _ _ _ _ => (s_or (s_cmp od_lt op_lt (sv 7) s_int (nomark _)) (s_one (s_cmp od_gt op_gt (s_op od_shr op_shr (sv 7) (s_cb cd_len cr_len B.len PySem.boot_len (a_cons (sv 4) a_nil))) s_int (nomark _))))))) a_nil)))))) (b_one (u_raise x_BadRows tk)) b_nil)
    (b_cons (u_own 5 (f_lst a_nil) nd)
    (b_cons (t_for po (i_zipB B.zip (a_cons (u_call h_words_of (hr.mono (by decide)) tk (a_cons (SF.val (f_lst (a_cons (s_tup (a_cons s_str (a_cons (sv 2) a_nil))) (a_cons (s_tup (a_cons s_str (a_cons (sv 3) a_nil))) a_nil)))) a_nil)) (a_cons (sv 0) a_nil))) (g_tup (gs_cons (u_g 6 nd) (gs_cons (u_g 7 nd) gs_nil))) (b_one (t_if (c_cmp od_gt op_gt (sv 7) s_int (nomark _)) (b_one (t_app 5 (s_op od_addS op_add_str (s_op od_addS op_add_str (sv 6) s_str) (s_join s_str (SF.val (f_lc (own := [("at", 8), ("one", 9)]) nd (i_enumS B.enumerate (a_cons (sv 4) a_nil)) (blkOk_by (own := [("at", 8), ("one", 9)]) (N := N_spread_text) (sc := defScope s_spread_text) (by decide +kernel)) (fun _ _ _ _ _ => (g_tup (gs_cons (u_g 8 nd) (gs_cons (u_g 9 nd) gs_nil)))) (fun _ _ _ _ _ => (ts_one (c_cmp od_eq (op_eqD hr.units) (s_op od_and op_and (s_op od_shr op_shr (sv 7) (sv 8)) s_int) s_int (nomark _)))) (fun _ _ _ _ _ => (sv 9)))))))) b_nil)))
    (b_frz 5 (b_one (t_ret (s_join s_str (sv 5))))))))))⟩
abbrev N_parts_of : List Str := ["text", "found", "at", "end"]
theorem sc_parts_of : FnScope N_parts_of ["text"] (defScope s_parts_of) := ⟨rfl, rfl, rfl, by decide +kernel, rfl, by decide +kernel, by decide +kernel⟩
theorem ok_parts_of {f : Addr} {fd : FuncData} (F : FnPk K "parts_of" "parts_of" s_parts_of [] [] f fd) (B : Bl mg) : FnOk P w K mg base (L2N.CX P w) 1 f fd ["text"] (spOf (GY K ca T) 1 m_parts_of) :=
  fn_sim (GY K ca T) F sc_parts_of rfl fun cdv A outer s H E hr tk po => by
  have nd := sc_parts_of.nd
  exact ⟨_, (b_cons (u_own 1 (f_lst a_nil) nd)
    (b_cons (u_set 2 s_int nd)
    (b_cons (t_while 4000 po (c_cmp od_lt op_lt (sv 2) (s_cb cd_len cr_len B.len PySem.boot_len (a_cons (sv 0) a_nil)) (nomark _)) (b_cons (u_set 3 (s_op od_add op_addD (sv 2) s_int) nd)
    (b_cons (t_if (c_val (s_alnum (s_ix od_ixS ix_str (sv 0) (sv 2) (fun _ _ => rfl)))) (b_one (t_while 4000 po (SW.sc (w_and (c_cmp od_lt op_lt (sv 3) (s_cb cd_len cr_len B.len PySem.boot_len (a_cons (sv 0) a_nil)) (nomark _)) (w_and1 (c_val (s_alnum (s_ix od_ixS ix_str (sv 0) (sv 3) (fun _ _ => rfl))))))) (b_one (u_aug 3 ip_add s_int nd)))) b_nil)
    (b_cons (t_if (c_cmp od_ne (op_neD hr.units) (s_ix od_ixS ix_str (sv 0) (sv 2) (fun _ _ => rfl)) s_str (nomark _)) (b_one (t_app 1 (s_tup (a_cons (s_slS (sv 0) (o_some (sv 2)) (o_some (sv 3))) (a_cons (sv 2) a_nil))))) b_nil)
    (b_one (u_set 2 (sv 3) nd))))))
    (b_one (t_retO 1)))))⟩
abbrev N_ReaderU_initU : List Str := ["self", "text"]
theorem sc_ReaderU_initU : FnScope N_ReaderU_initU ["self", "text"] (defScope s_ReaderU_initU) := ⟨rfl, rfl, rfl, by decide +kernel, rfl, by decide +kernel, by decide +kernel⟩
theorem ok_ReaderU_initU {f : Addr} {fd : FuncData} (F : FnPk K "__init__" "Reader.__init__" s_ReaderU_initU [] [] f fd) (B : Bl mg) (h_parts_of : Kn P w K mg base (GY K ca T) 1 "parts_of" 1 m_parts_of [] []) (C_Reader : Cls K ((GY K ca T).ca "Reader")) (n_Reader_found : NoAttr K ((GY K ca T).ca "Reader") "found") (n_Reader_step : NoAttr K ((GY K ca T).ca "Reader") "step") (n_Reader_end : NoAttr K ((GY K ca T).ca "Reader") "end") : FnOk P w K mg base (L2N.CX P w) 2 f fd ["self", "text"] (spOf (GY K ca T) 2 m_ReaderU_initU) :=
  fn_sim (GY K ca T) F sc_ReaderU_initU rfl fun cdv A outer s H E hr tk po => by
  have nd := sc_ReaderU_initU.nd
  exact ⟨_, (b_cons (t_fld "Reader" C_Reader n_Reader_found (sv 0) (u_call h_parts_of (hr.mono (by decide)) tk (a_cons (sv 1) a_nil)))
    (b_cons (t_fld "Reader" C_Reader n_Reader_step (sv 0) s_int)
    (b_one (t_fld "Reader" C_Reader n_Reader_end (sv 0) (s_cb cd_len cr_len B.len PySem.boot_len (a_cons (sv 1) a_nil))))))⟩
abbrev N_Reader_ahead : List Str := ["self"]
theorem sc_Reader_ahead : FnScope N_Reader_ahead ["self"] (defScope s_Reader_ahead) := ⟨rfl, rfl, rfl, by decide +kernel, rfl, by decide +kernel, by decide +kernel⟩
theorem ok_Reader_ahead {f : Addr} {fd : FuncData} (F : FnPk K "ahead" "Reader.ahead" s_Reader_ahead [] [] f fd) (B : Bl mg) (C_Reader : Cls K ((GY K ca T).ca "Reader")) (n_Reader_step : NoAttr K ((GY K ca T).ca "Reader") "step") (n_Reader_found : NoAttr K ((GY K ca T).ca "Reader") "found") : FnOk P w K mg base (L2N.CX P w) 1 f fd ["self"] (spOf (GY K ca T) 1 m_Reader_ahead) :=
  fn_sim (GY K ca T) F sc_Reader_ahead rfl fun cdv A outer s H E hr tk po => by
  have nd := sc_Reader_ahead.nd
  exact ⟨_, (b_one (t_ret (s_if (c_cmp od_lt op_lt (s_fld "Reader" C_Reader n_Reader_step (sv 0)) (s_cb cd_len cr_len B.len PySem.boot_len (a_cons (s_fld "Reader" C_Reader n_Reader_found (sv 0)) a_nil)) (nomark _)) (s_ix od_ix ix_lt (s_ix od_ix ix_lt (s_fld "Reader" C_Reader n_Reader_found (sv 0)) (s_fld "Reader" C_Reader n_Reader_step (sv 0)) (fun _ _ => rfl)) s_int (fun _ _ => rfl)) s_str)))⟩
abbrev N_Reader_wrong : List Str := ["self"]
theorem sc_Reader_wrong : FnScope N_Reader_wrong ["self"] (defScope s_Reader_wrong) := ⟨rfl, rfl, rfl, by decide +kernel, rfl, by decide +kernel, by decide +kernel⟩
theorem ok_Reader_wrong {f : Addr} {fd : FuncData} (F : FnPk K "wrong" "Reader.wrong" s_Reader_wrong [] [] f fd) (B : Bl mg) (C_Reader : Cls K ((GY K ca T).ca "Reader")) (n_Reader_step : NoAttr K ((GY K ca T).ca "Reader") "step") (n_Reader_found : NoAttr K ((GY K ca T).ca "Reader") "found") (n_Reader_end : NoAttr K ((GY K ca T).ca "Reader") "end") : FnOk P w K mg base (L2N.CX P w) 1 f fd ["self"] (spOf (GY K ca T) 1 m_Reader_wrong) :=
  fn_sim (GY K ca T) F sc_Reader_wrong rfl fun cdv A outer s H E hr tk po => by
  have nd := sc_Reader_wrong.nd
  exact ⟨_, (b_one (t_ret (s_if (c_cmp od_lt op_lt (s_fld "Reader" C_Reader n_Reader_step (sv 0)) (s_cb cd_len cr_len B.len PySem.boot_len (a_cons (s_fld "Reader" C_Reader n_Reader_found (sv 0)) a_nil)) (nomark _)) (s_ix od_ix ix_lt (s_ix od_ix ix_lt (s_fld "Reader" C_Reader n_Reader_found (sv 0)) (s_fld "Reader" C_Reader n_Reader_step (sv 0)) (fun _ _ => rfl)) s_int (fun _ _ => rfl)) (s_fld "Reader" C_Reader n_Reader_end (sv 0)))))⟩
abbrev N_Reader_take : List Str := ["self", "some", "word"]
theorem sc_Reader_take : FnScope N_Reader_take ["self", "some"] (defScope s_Reader_take) := ⟨rfl, rfl, rfl, by decide +kernel, rfl, by decide +kernel, by decide +kernel⟩
theorem ok_Reader_take {f : Addr} {fd : FuncData} (F : FnPk K "take" "Reader.take" s_Reader_take [] [] f fd) (h_Reader_ahead : KnM P w K mg base (GY K ca T) 1 "Reader" "ahead" 1 m_Reader_ahead [] []) (h_Reader_wrong : KnM P w K mg base (GY K ca T) 1 "Reader" "wrong" 1 m_Reader_wrong [] []) (xf_BadText : KnF P w K mg base (GY K ca T) "BadText") (C_Reader : Cls K ((GY K ca T).ca "Reader")) (n_Reader_step : NoAttr K ((GY K ca T).ca "Reader") "step") : FnOk P w K mg base (L2N.CX P w) 3 f fd ["self", "some"] (spOf (GY K ca T) 2 m_Reader_take) :=
  fn_sim (GY K ca T) F sc_Reader_take rfl fun cdv A outer s H E hr tk po => by
  have nd := sc_Reader_take.nd
  exact ⟨_, (b_cons (u_set 2 (u_meth0 "Reader" h_Reader_ahead (hr.mono (by decide)) tk (sv 0)) nd)
    (b_cons (t_if (c_cmp od_inX op_notIn_seq (sv 2) (sv 1) (by rfl)) (b_one (u_raiseF xf_BadText (hr.mono (by decide)) tk (u_meth0 "Reader" h_Reader_wrong (hr.mono (by decide)) tk (sv 0)))) b_nil)
    (b_cons (t_augF (c := "Reader") in_add C_Reader n_Reader_step (sv 0) s_int)
    (b_one (t_ret (sv 2))))))⟩
abbrev N_read_sum : List Str := ["reader", "worths", "word", "row"]
theorem sc_read_sum : FnScope N_read_sum ["reader", "worths"] (defScope s_read_sum) := ⟨rfl, rfl, rfl, by decide +kernel, rfl, by decide +kernel, by decide +kernel⟩
theorem ok_read_sum {f : Addr} {fd : FuncData} (F : FnPk K "read_sum" "read_sum" s_read_sum [] [] f fd) (B : Bl mg) (h_Reader_take : KnM P w K mg base (GY K ca T) 3 "Reader" "take" 2 m_Reader_take [] []) (h_Reader_ahead : KnM P w K mg base (GY K ca T) 1 "Reader" "ahead" 1 m_Reader_ahead [] []) : FnOk P w K mg base (L2N.CX P w) 4 f fd ["reader", "worths"] (spOf (GY K ca T) 2 m_read_sum) :=
  fn_sim (GY K ca T) F sc_read_sum rfl fun cdv A outer s H E hr tk po => by
  have nd := sc_read_sum.nd
  exact ⟨_, (b_cons (u_set 2 (u_meth "Reader" h_Reader_take (hr.mono (by decide)) tk (sv 0) (a_cons (s_op od_add op_addD (SF.val (f_ct co_listD (call_listR rfl) B.list PyProof.Rows.boot_list (a_cons (sv 1) a_nil))) (SF.val (f_lst (a_cons s_str a_nil)))) a_nil)) nd)
    (b_cons (t_if (c_cmp od_eq (op_eqD hr.units) (sv 2) s_str (nomark _)) (b_one (t_ret s_int)) b_nil)
    (b_cons (u_set 3 (s_dgetA 1 hr.units (sv 2) (fun _ _ => rfl)) nd)
    (b_cons (t_while 4000 po (c_cmp od_eq (op_eqD hr.units) (u_meth0 "Reader" h_Reader_ahead (hr.mono (by decide)) tk (sv 0)) s_str (nomark _)) (b_cons (t_expr (u_meth "Reader" h_Reader_take (hr.mono (by decide)) tk (sv 0) (a_cons (SF.val (f_lst (a_cons s_str a_nil))) a_nil)))
    (b_one (u_set 3 (s_op od_xor op_xor (sv 3) (s_dgetA 1 hr.units (u_meth "Reader" h_Reader_take (hr.mono (by decide)) tk (sv 0) (a_cons (SF.val (f_ct co_listD (call_listR rfl) B.list PyProof.Rows.boot_list (a_cons (sv 1) a_nil))) a_nil)) (fun _ _ => rfl))) nd))))
    (b_one (t_ret (sv 3)))))))⟩
abbrev N_read_spread : List Str := ["text", "sides", "box", "lane", "worths", "berths", "reader", "rows", "more", "word", "at", "one"]
theorem sc_read_spread : FnScope N_read_spread ["text", "sides", "box", "lane"] (defScope s_read_spread) := ⟨rfl, rfl, rfl, by decide +kernel, rfl, by decide +kernel, by decide +kernel⟩
theorem ok_read_spread {f : Addr} {fd : FuncData} (F : FnPk K "read_spread" "read_spread" s_read_spread [] [("lane", .int 0)] f fd) (B : Bl mg) (h_need_sides : Kn P w K mg base (GY K ca T) 2 "need_sides" 1 m_need_sides [] []) (h_words_of : Kn P w K mg base (GY K ca T) 1 "words_of" 1 m_words_of [] []) (k_Reader : KnC P w K mg base (GY K ca T) 2 "Reader" 2 m_ReaderU_initU [] []) (h_Reader_ahead : KnM P w K mg base (GY K ca T) 1 "Reader" "ahead" 1 m_Reader_ahead [] []) (h_Reader_take : KnM P w K mg base (GY K ca T) 3 "Reader" "take" 2 m_Reader_take [] []) (h_read_sum : Kn P w K mg base (GY K ca T) 4 "read_sum" 2 m_read_sum [] []) : FnOk P w K mg base (L2N.CX P w) 5 f fd ["text", "sides", "box", "lane"] (spOf (GY K ca T) 4 m_read_spread) :=
  fn_sim (GY K ca T) F sc_read_spread rfl fun cdv A outer s H E hr tk po => by
  have nd := sc_read_spread.nd
  exact ⟨_, (b_cons (t_expr (u_call h_need_sides (hr.mono (by decide)) tk (a_cons (sv 1) a_nil)))
    (b_cons (t_setDc (i := 4) (own := [("at", 10), ("word", 9)]) nd rfl rfl (sw_trueD rfl rfl rfl (by decide +kernel)) (i_enumS B.enumerate (a_cons (u_call h_words_of (hr.mono (by decide)) tk (a_cons (sv 1) a_nil)) a_nil)) (blkOk_by (own := [("at", 10), ("word", 9)]) (N := N_read_spread) (sc := defScope s_read_spread) (by decide +kernel)) (fun _ _ _ _ _ => (g_tup (gs_cons (u_g 10 nd) (gs_cons (u_g 9 nd) gs_nil)))) (fun _ _ _ _ _ => ts_nil) (fun _ _ _ _ _ => (sv 9)) (fun _ _ _ _ _ => (s_op od_shl op_shl s_int (sv 10))))
    (b_cons (u_set 5 (u_call h_words_of (hr.mono (by decide)) tk (a_cons (SF.val (f_lst (a_cons (s_tup (a_cons s_str (a_cons (sv 2) a_nil))) (a_cons (s_tup (a_cons s_str (a_cons (sv 3) a_nil))) a_nil)))) a_nil)) nd)
    (b_cons (u_set 6 (u_newC k_Reader (hr.mono (by decide)) tk (a_cons (sv 0) a_nil)) nd)
    (b_cons (u_cell 7 (f_dic0) nd)
    (b_cons (u_set 8 (s_cmp od_ne (op_neD hr.units) (u_meth0 "Reader" h_Reader_ahead (hr.mono (by decide)) tk (sv 6)) s_str (nomark _)) nd)
    (b_cons (t_while 4000 po (c_val (sv 8)) (b_cons (u_set 9 (u_meth "Reader" h_Reader_take (hr.mono (by decide)) tk (sv 6) (a_cons (SF.val (f_lc (own := [("one", 11)]) nd (i_seq (sv 5)) (blkOk_by (own := [("one", 11)]) (N := N_read_spread) (sc := defScope s_read_spread) (by decide +kernel)) (fun _ _ _ _ _ => (u_g 11 nd)) (fun _ _ _ _ _ => (ts_one (c_dninA 7 hr.units (sv 11)))) (fun _ _ _ _ _ => (sv 11)))) a_nil)) nd)
    (b_cons (t_expr (u_meth "Reader" h_Reader_take (hr.mono (by decide)) tk (sv 6) (a_cons (SF.val (f_lst (a_cons s_str a_nil))) a_nil)))
    (b_cons (t_dputA 7 hr.units (sv 9) (u_call h_read_sum (hr.mono (by decide)) tk (a_cons (sv 6) (a_cons (sv 4) a_nil))))
    (b_cons (u_set 8 (s_cmp od_ne (op_neD hr.units) (u_meth0 "Reader" h_Reader_ahead (hr.mono (by decide)) tk (sv 6)) s_str (nomark _)) nd)
    (b_one (t_if (c_val (sv 8)) (b_one (t_expr (u_meth "Reader" h_Reader_take (hr.mono (by decide)) tk (sv 6) (a_cons (SF.val (f_lst (a_cons s_str a_nil))) a_nil)))) b_nil)))))))
    (b_one (t_ret (s_ct cd_tup call_tuple_of B.tuple PyProof.Rows.boot_tuple (a_cons (SF.val (f_lc (own := [("word", 9)]) nd (i_seq (sv 5)) (blkOk_by (own := [("word", 9)]) (N := N_read_spread) (sc := defScope s_read_spread) (by decide +kernel)) (fun _ _ _ _ _ => (u_g 9 nd)) (fun _ _ _ _ _ => ts_nil) (fun _ _ _ _ _ => (s_dget2A 7 hr.units (sv 9) s_int)))) a_nil)))))))))))⟩
abbrev N_BodyU_initU : List Str := ["self", "box", "lane", "banks"]
theorem sc_BodyU_initU : FnScope N_BodyU_initU ["self", "box", "lane", "banks"] (defScope s_BodyU_initU) := ⟨rfl, rfl, rfl, by decide +kernel, rfl, by decide +kernel, by decide +kernel⟩
theorem ok_BodyU_initU {f : Addr} {fd : FuncData} (F : FnPk K "__init__" "Body.__init__" s_BodyU_initU [] [("banks", .int 2)] f fd) (x_BadSize : KnX K mg (GY K ca T) "BadSize") (C_Body : Cls K ((GY K ca T).ca "Body")) (n_Body_wide : NoAttr K ((GY K ca T).ca "Body") "wide") (n_Body_tables : NoAttr K ((GY K ca T).ca "Body") "tables") (n_Body_store : NoAttr K ((GY K ca T).ca "Body") "store") (n_Body_dues : NoAttr K ((GY K ca T).ca "Body") "dues") : FnOk P w K mg base (L2N.CX P w) 1 f fd ["self", "box", "lane", "banks"] (spOf (GY K ca T) 4 m_BodyU_initU) :=
  fn_sim (GY K ca T) F sc_BodyU_initU rfl fun cdv A outer s H E hr tk po => by
  have nd := sc_BodyU_initU.nd
  exact ⟨_, (b_cons (t_if (SW.sc (w_or (c_cmp od_lt op_lt (sv 1) s_int (nomark _)) (w_or (c_cmp od_gt op_gt (sv 1) s_int (nomark _)) (w_or (c_cmp od_lt op_lt (sv 2) s_int (nomark _)) (w_or (c_cmp od_gt op_gt (sv 2) s_int (nomark _)) (w_or (c_cmp od_lt op_lt (sv 3) s_int (nomark _)) (w_or1 (c_cmp od_gt op_gt (sv 3) s_int (nomark _))))))))) (b_one (u_raise x_BadSize tk)) b_nil)
    (b_cons (t_fld "Body" C_Body n_Body_wide (sv 0) (s_tup (a_cons (sv 1) (a_cons (sv 2) (a_cons (sv 3) a_nil)))))
    (b_cons (t_fld "Body" C_Body n_Body_tables (sv 0) (s_cellOf f_dic0))
    (b_cons (t_fld "Body" C_Body n_Body_store (sv 0) (s_cellOf f_dic0))
    (b_one (t_fld "Body" C_Body n_Body_dues (sv 0) (s_tup (a_cons s_int (a_cons s_int a_nil)))))))))⟩
abbrev N__law_cells : List Str := ["_law_box_z", "_law_many", "_law_top", "_law_cell"]
theorem sc__law_cells : FnScope N__law_cells ["_law_box_z", "_law_many"] (defScope s__law_cells) := ⟨rfl, rfl, rfl, by decide +kernel, rfl, by decide +kernel, by decide +kernel⟩
theorem ok__law_cells {f : Addr} {fd : FuncData} (F : FnPk K "_law_cells" "_law_cells" s__law_cells [] [] f fd) (B : Bl mg) (h__law_of : Kn P w K mg base (GY K ca T) 2 "_law_of" 2 m__law_of [] []) (h__law_take : Kn P w K mg base (GY K ca T) 1 "_law_take" 2 m__law_take [] []) : FnOk P w K mg base (L2N.CX P w) 3 f fd ["_law_box_z", "_law_many"] (spOf (GY K ca T) 2 m__law_cells) :=
  fn_sim (GY K ca T) F sc__law_cells rfl fun cdv A outer s H E hr tk po => by
  have nd := sc__law_cells.nd
  exact ⟨_, (b_cons (u_set 2 (u_call h__law_of (hr.mono (by decide)) tk (a_cons (sv 0) (a_cons (SF.val (f_lst (a_cons s_int (a_cons s_int (a_cons s_int a_nil))))) a_nil))) nd)
    (b_one (t_ret (s_ct cd_tup call_tuple_of B.tuple PyProof.Rows.boot_tuple (a_cons (SF.val (f_lc (own := [("_law_cell", 3)]) nd (i_range1 B.range (a_cons (s_op od_shl op_shl s_int (sv 1)) a_nil)) (blkOk_by (own := [("_law_cell", 3)]) (N := N__law_cells) (sc := defScope s__law_cells) (by decide +kernel)) (fun _ _ _ _ _ => (u_g 3 nd)) (fun _ _ _ _ _ => ts_nil) (fun _ _ _ _ _ => (s_op od_sub op_sub (u_call h__law_take (hr.mono (by decide)) takesN (a_cons (sv 0) (a_cons (sv 2) a_nil))) (s_op od_div op_fdivN (sv 2) s_int))))) a_nil)))))⟩
abbrev N_Body_need_new : List Str := ["self", "name"]
theorem sc_Body_need_new : FnScope N_Body_need_new ["self", "name"] (defScope s_Body_need_new) := ⟨rfl, rfl, rfl, by decide +kernel, rfl, by decide +kernel, by decide +kernel⟩
theorem ok_Body_need_new {f : Addr} {fd : FuncData} (F : FnPk K "need_new" "Body.need_new" s_Body_need_new [] [] f fd) (B : Bl mg) (h_is_name : Kn P w K mg base (GY K ca T) 1 "is_name" 1 m_is_name [] []) (x_BadName : KnX K mg (GY K ca T) "BadName") (C_Body : Cls K ((GY K ca T).ca "Body")) (n_Body_tables : NoAttr K ((GY K ca T).ca "Body") "tables") (x_Taken : KnX K mg (GY K ca T) "Taken") (c_MOST_TABLES : ∃ u, mg "MOST_TABLES" = some (.int 6 u)) (x_Full : KnX K mg (GY K ca T) "Full") : FnOk P w K mg base (L2N.CX P w) 2 f fd ["self", "name"] (spOf (GY K ca T) 2 m_Body_need_new) :=
  fn_sim (GY K ca T) F sc_Body_need_new rfl fun cdv A outer s H E hr tk po => by
  have nd := sc_Body_need_new.nd
  exact ⟨_, (b_cons (t_if (c_not (c_val (u_call h_is_name (hr.mono (by decide)) tk (a_cons (sv 1) a_nil)))) (b_one (u_raise x_BadName tk)) b_nil)
    (b_cons (t_if (c_din hr.units (sv 1) (s_fld "Body" C_Body n_Body_tables (sv 0))) (b_one (u_raise x_Taken tk)) b_nil)
    (b_one (t_if (c_cmp od_ge op_ge (s_cb cd_lenD call_lenD B.len PySem.boot_len (a_cons (s_fld "Body" C_Body n_Body_tables (sv 0)) a_nil)) (u_int c_MOST_TABLES) (nomark _)) (b_one (u_raise x_Full tk)) b_nil))))⟩
abbrev N_digits_of : List Str := ["count", "most", "many"]
theorem sc_digits_of : FnScope N_digits_of ["count", "most"] (defScope s_digits_of) := ⟨rfl, rfl, rfl, by decide +kernel, rfl, by decide +kernel, by decide +kernel⟩
theorem ok_digits_of {f : Addr} {fd : FuncData} (F : FnPk K "digits_of" "digits_of" s_digits_of [] [] f fd) (x_BadCells : KnX K mg (GY K ca T) "BadCells") : FnOk P w K mg base (L2N.CX P w) 1 f fd ["count", "most"] (spOf (GY K ca T) 2 m_digits_of) :=
  fn_sim (GY K ca T) F sc_digits_of rfl fun cdv A outer s H E hr tk po => by
  have nd := sc_digits_of.nd
  exact ⟨_, (b_cons (u_set 2 s_int nd)
    (b_cons (t_while 100 po (SW.sc (w_and (c_cmp od_lt op_lt (sv 2) (sv 1) (nomark _)) (w_and1 (c_cmp od_lt op_lt (s_op od_shl op_shl s_int (sv 2)) (sv 0) (nomark _))))) (b_one (u_aug 2 ip_add s_int nd)))
    (b_cons (t_if (c_cmp od_ne (op_neD hr.units) (s_op od_shl op_shl s_int (sv 2)) (sv 0) (nomark _)) (b_one (u_raise x_BadCells tk)) b_nil)
    (b_one (t_ret (sv 2))))))⟩
abbrev N_TableU_initU : List Str := ["self", "spread", "grip", "move"]
theorem sc_TableU_initU : FnScope N_TableU_initU ["self", "spread", "grip", "move"] (defScope s_TableU_initU) := ⟨rfl, rfl, rfl, by decide +kernel, rfl, by decide +kernel, by decide +kernel⟩
theorem ok_TableU_initU {f : Addr} {fd : FuncData} (F : FnPk K "__init__" "Table.__init__" s_TableU_initU [] [("move", .non)] f fd) (C_Table : Cls K ((GY K ca T).ca "Table")) (n_Table_spread : NoAttr K ((GY K ca T).ca "Table") "spread") (n_Table_grip : NoAttr K ((GY K ca T).ca "Table") "grip") (n_Table_move : NoAttr K ((GY K ca T).ca "Table") "move") : FnOk P w K mg base (L2N.CX P w) 1 f fd ["self", "spread", "grip", "move"] (spOf (GY K ca T) 4 m_TableU_initU) :=
  fn_sim (GY K ca T) F sc_TableU_initU rfl fun cdv A outer s H E hr tk po => by
  have nd := sc_TableU_initU.nd
  exact ⟨_, (b_cons (t_fld "Table" C_Table n_Table_spread (sv 0) (sv 1))
    (b_cons (t_fld "Table" C_Table n_Table_grip (sv 0) (sv 2))
    (b_one (t_fld "Table" C_Table n_Table_move (sv 0) (sv 3)))))⟩
abbrev N_Fold_many : List Str := ["self"]
theorem sc_Fold_many : FnScope N_Fold_many ["self"] (defScope s_Fold_many) := ⟨rfl, rfl, rfl, by decide +kernel, rfl, by decide +kernel, by decide +kernel⟩
theorem ok_Fold_many {f : Addr} {fd : FuncData} (F : FnPk K "many" "Fold.many" s_Fold_many [] [] f fd) (B : Bl mg) (C_Fold : Cls K ((GY K ca T).ca "Fold")) (n_Fold_lines : NoAttr K ((GY K ca T).ca "Fold") "lines") : FnOk P w K mg base (L2N.CX P w) 1 f fd ["self"] (spOf (GY K ca T) 1 m_Fold_many) :=
  fn_sim (GY K ca T) F sc_Fold_many rfl fun cdv A outer s H E hr tk po => by
  have nd := sc_Fold_many.nd
  exact ⟨_, (b_one (t_ret (s_cb cd_len cr_len B.len PySem.boot_len (a_cons (s_fld "Fold" C_Fold n_Fold_lines (sv 0)) a_nil))))⟩
abbrev N_blended : List Str := ["numbers", "found", "one"]
theorem sc_blended : FnScope N_blended ["numbers"] (defScope s_blended) := ⟨rfl, rfl, rfl, by decide +kernel, rfl, by decide +kernel, by decide +kernel⟩
theorem ok_blended {f : Addr} {fd : FuncData} (F : FnPk K "blended" "blended" s_blended [] [] f fd) : FnOk P w K mg base (L2N.CX P w) 1 f fd ["numbers"] (spOf (GY K ca T) 1 m_blended) :=
  fn_sim (GY K ca T) F sc_blended rfl fun cdv A outer s H E hr tk po => by
  have nd := sc_blended.nd
  exact ⟨_, (b_cons (u_set 1 s_int nd)
    (b_cons (t_for po (i_seq (sv 0)) (u_g 2 nd) (b_one (u_set 1 (s_op od_xor op_xor (sv 1) (sv 2)) nd)))
    (b_one (t_ret (sv 1)))))⟩
abbrev N_picked : List Str := ["rows", "number", "at", "row"]
theorem sc_picked : FnScope N_picked ["rows", "number"] (defScope s_picked) := ⟨rfl, rfl, rfl, by decide +kernel, rfl, by decide +kernel, by decide +kernel⟩
theorem ok_picked {f : Addr} {fd : FuncData} (F : FnPk K "picked" "picked" s_picked [] [] f fd) (B : Bl mg) (h_blended : Kn P w K mg base (GY K ca T) 1 "blended" 1 m_blended [] []) : FnOk P w K mg base (L2N.CX P w) 2 f fd ["rows", "number"] (spOf (GY K ca T) 2 m_picked) :=
  fn_sim (GY K ca T) F sc_picked rfl fun cdv A outer s H E hr tk po => by
  have nd := sc_picked.nd
  exact ⟨_, (b_one (t_ret (u_call h_blended (hr.mono (by decide)) tk (a_cons (SF.val (f_lc (own := [("at", 2), ("row", 3)]) nd (i_enumS B.enumerate (a_cons (sv 0) a_nil)) (blkOk_by (own := [("at", 2), ("row", 3)]) (N := N_picked) (sc := defScope s_picked) (by decide +kernel)) (fun _ _ _ _ _ => (g_tup (gs_cons (u_g 2 nd) (gs_cons (u_g 3 nd) gs_nil)))) (fun _ _ _ _ _ => (ts_one (c_cmp od_eq (op_eqD hr.units) (s_op od_and op_and (s_op od_shr op_shr (sv 1) (sv 2)) s_int) s_int (nomark _)))) (fun _ _ _ _ _ => (sv 3)))) a_nil))))⟩
abbrev N_Fold_to : List Str := ["self", "number"]
theorem sc_Fold_to : FnScope N_Fold_to ["self", "number"] (defScope s_Fold_to) := ⟨rfl, rfl, rfl, by decide +kernel, rfl, by decide +kernel, by decide +kernel⟩
theorem ok_Fold_to {f : Addr} {fd : FuncData} (F : FnPk K "to" "Fold.to" s_Fold_to [] [] f fd) (B : Bl mg) (C_Fold : Cls K ((GY K ca T).ca "Fold")) (n_Fold_lines : NoAttr K ((GY K ca T).ca "Fold") "lines") (x_BadNumber : KnX K mg (GY K ca T) "BadNumber") (h_picked : Kn P w K mg base (GY K ca T) 2 "picked" 2 m_picked [] []) : FnOk P w K mg base (L2N.CX P w) 3 f fd ["self", "number"] (spOf (GY K ca T) 2 m_Fold_to) :=
  fn_sim (GY K ca T) F sc_Fold_to rfl fun cdv A outer s H E hr tk po => by
  have nd := sc_Fold_to.nd
  exact ⟨_, (b_cons (t_if (SW.sc (w_or (c_cmp od_lt op_lt (sv 1) s_int (nomark _)) (w_or1 (c_cmp od_gt op_gt (s_op od_shr op_shr (sv 1) (s_cb cd_len cr_len B.len PySem.boot_len (a_cons (s_fld "Fold" C_Fold n_Fold_lines (sv 0)) a_nil))) s_int (nomark _))))) (b_one (u_raise x_BadNumber tk)) b_nil)
    (b_one (t_ret (u_call h_picked (hr.mono (by decide)) tk (a_cons (s_fld "Fold" C_Fold n_Fold_lines (sv 0)) (a_cons (sv 1) a_nil))))))⟩
abbrev N_laid : List Str := ["spread", "cells", "berth"]
theorem sc_laid : FnScope N_laid ["spread", "cells"] (defScope s_laid) := ⟨rfl, rfl, rfl, by decide +kernel, rfl, by decide +kernel, by decide +kernel⟩
theorem ok_laid {f : Addr} {fd : FuncData} (F : FnPk K "laid" "laid" s_laid [] [] f fd) (B : Bl mg) (k_Table_d : KnC P w K mg base (GY K ca T) 1 "Table" 4 m_TableU_initU [.non] [.non]) (h_Fold_many : KnM P w K mg base (GY K ca T) 1 "Fold" "many" 1 m_Fold_many [] []) (h_Fold_to : KnM P w K mg base (GY K ca T) 3 "Fold" "to" 2 m_Fold_to [] []) : FnOk P w K mg base (L2N.CX P w) 4 f fd ["spread", "cells"] (spOf (GY K ca T) 2 m_laid) :=
  fn_sim (GY K ca T) F sc_laid rfl fun cdv A outer s H E hr tk po => by
  have nd := sc_laid.nd
  exact ⟨_, (b_one (t_ret (u_new k_Table_d (hr.mono (by decide)) tk (a_cons (sv 0) (a_cons (s_ct cd_tup call_tuple_of B.tuple PyProof.Rows.boot_tuple (a_cons (SF.val (f_lc (own := [("berth", 2)]) nd (i_range1 B.range (a_cons (s_op od_shl op_shl s_int (u_meth0 "Fold" h_Fold_many (hr.mono (by decide)) tk (sv 0))) a_nil)) (blkOk_by (own := [("berth", 2)]) (N := N_laid) (sc := defScope s_laid) (by decide +kernel)) (fun _ _ _ _ _ => (u_g 2 nd)) (fun _ _ _ _ _ => ts_nil) (fun _ _ _ _ _ => (s_ix od_ix ix_lt (sv 1) (u_meth "Fold" h_Fold_to (hr.mono (by decide)) takesN (sv 0) (a_cons (sv 2) a_nil)) (fun _ _ => rfl))))) a_nil)) a_nil)))))⟩
abbrev N_FoldU_initU : List Str := ["self", "rows", "size", "row"]
theorem sc_FoldU_initU : FnScope N_FoldU_initU ["self", "rows", "size"] (defScope s_FoldU_initU) := ⟨rfl, rfl, rfl, by decide +kernel, rfl, by decide +kernel, by decide +kernel⟩
theorem ok_FoldU_initU {f : Addr} {fd : FuncData} (F : FnPk K "__init__" "Fold.__init__" s_FoldU_initU [] [] f fd) (B : Bl mg) (c_MOST_DIGITS : ∃ u, mg "MOST_DIGITS" = some (.int 12 u)) (x_BadFold : KnX K mg (GY K ca T) "BadFold") (C_Fold : Cls K ((GY K ca T).ca "Fold")) (n_Fold_lines : NoAttr K ((GY K ca T).ca "Fold") "lines") (n_Fold_wide : NoAttr K ((GY K ca T).ca "Fold") "wide") : FnOk P w K mg base (L2N.CX P w) 1 f fd ["self", "rows", "size"] (spOf (GY K ca T) 3 m_FoldU_initU) :=
  fn_sim (GY K ca T) F sc_FoldU_initU rfl fun cdv A outer s H E hr tk po => by
  have nd := sc_FoldU_initU.nd
  exact ⟨_, (b_cons (t_if (SW.sc (w_or (c_cmp od_lt op_lt (sv 2) s_int (nomark _)) (w_or (c_cmp od_gt op_gt (sv 2) (u_int c_MOST_DIGITS) (nomark _)) (w_or1 (c_cmp od_gt op_gt (s_cb cd_len cr_len B.len PySem.boot_len (a_cons (sv 1) a_nil)) (u_int c_MOST_DIGITS) (nomark _)))))) (b_one (u_raise x_BadFold tk)) b_nil)
    (b_cons (t_for po (i_seq (sv 1)) (u_g 3 nd) (b_one (t_if (SW.sc (w_or (c_cmp od_lt op_lt (sv 3) s_int (nomark _)) (w_or1 (c_cmp od_gt op_gt (s_op od_shr op_shr (sv 3) (sv 2)) s_int (nomark _))))) (b_one (u_raise x_BadFold tk)) b_nil)))
    (b_cons (t_fld "Fold" C_Fold n_Fold_lines (sv 0) (s_ct cd_tup call_tuple_of B.tuple PyProof.Rows.boot_tuple (a_cons (sv 1) a_nil)))
    (b_one (t_fld "Fold" C_Fold n_Fold_wide (sv 0) (sv 2))))))⟩
abbrev N_top_of : List Str := ["one"]
theorem sc_top_of : FnScope N_top_of ["one"] (defScope s_top_of) := ⟨rfl, rfl, rfl, by decide +kernel, rfl, by decide +kernel, by decide +kernel⟩
theorem ok_top_of {f : Addr} {fd : FuncData} (F : FnPk K "top_of" "top_of" s_top_of [] [] f fd) : FnOk P w K mg base (L2N.CX P w) 1 f fd ["one"] (spOf (GY K ca T) 1 m_top_of) :=
  fn_sim (GY K ca T) F sc_top_of rfl fun cdv A outer s H E hr tk po => by
  have nd := sc_top_of.nd
  exact ⟨_, (b_one (t_ret (s_op od_shl op_shl s_int (s_op od_sub op_sub (s_bits (sv 0)) s_int))))⟩
abbrev N_reduced : List Str := ["one", "found", "left", "other"]
theorem sc_reduced : FnScope N_reduced ["one", "found"] (defScope s_reduced) := ⟨rfl, rfl, rfl, by decide +kernel, rfl, by decide +kernel, by decide +kernel⟩
theorem ok_reduced {f : Addr} {fd : FuncData} (F : FnPk K "reduced" "reduced" s_reduced [] [] f fd) (h_top_of : Kn P w K mg base (GY K ca T) 1 "top_of" 1 m_top_of [] []) : FnOk P w K mg base (L2N.CX P w) 2 f fd ["one", "found"] (spOf (GY K ca T) 2 m_reduced) :=
  fn_sim (GY K ca T) F sc_reduced rfl fun cdv A outer s H E hr tk po => by
  have nd := sc_reduced.nd
  exact ⟨_, (b_cons (u_set 2 (sv 0) nd)
    (b_cons (t_for po (i_seq (sv 1)) (u_g 3 nd) (b_one (t_if (c_cmp od_gt op_gt (s_op od_and op_and (sv 2) (u_call h_top_of (hr.mono (by decide)) tk (a_cons (sv 3) a_nil))) s_int (nomark _)) (b_one (u_set 2 (s_op od_xor op_xor (sv 2) (sv 3)) nd)) b_nil)))
    (b_one (t_ret (sv 2)))))⟩
abbrev N_basis_of : List Str := ["numbers", "found", "one", "left", "top", "other"]
theorem sc_basis_of : FnScope N_basis_of ["numbers"] (defScope s_basis_of) := ⟨rfl, rfl, rfl, by decide +kernel, rfl, by decide +kernel, by decide +kernel⟩
theorem ok_basis_of {f : Addr} {fd : FuncData} (F : FnPk K "basis_of" "basis_of" s_basis_of [] [] f fd) (B : Bl mg) (h_reduced : Kn P w K mg base (GY K ca T) 2 "reduced" 2 m_reduced [] []) (h_top_of : Kn P w K mg base (GY K ca T) 1 "top_of" 1 m_top_of [] []) : FnOk P w K mg base (L2N.CX P w) 3 f fd ["numbers"] (spOf (GY K ca T) 1 m_basis_of) :=
  fn_sim (GY K ca T) F sc_basis_of rfl fun cdv A outer s H E hr tk po => by
  have nd := sc_basis_of.nd
  exact ⟨_, (b_cons (u_set 1 (SF.val (f_lst a_nil)) nd)
    (b_cons (t_for po (i_seq (sv 0)) (u_g 2 nd) (b_cons (u_set 3 (u_call h_reduced (hr.mono (by decide)) tk (a_cons (sv 2) (a_cons (sv 1) a_nil))) nd)
    (b_one (t_if (c_cmp od_gt op_gt (sv 3) s_int (nomark _)) (b_cons (u_set 4 (u_call h_top_of (hr.mono (by decide)) tk (a_cons (sv 3) a_nil)) nd)
    (b_one (u_set 1 (s_op od_add op_addD (SF.val (f_lc (own := [("other", 5)]) nd (i_seq (sv 1)) (blkOk_by (own := [("other", 5)]) (N := N_basis_of) (sc := defScope s_basis_of) (by decide +kernel)) (fun _ _ _ _ _ => (u_g 5 nd)) (fun _ _ _ _ _ => ts_nil) (fun _ _ _ _ _ => (s_if (c_cmp od_gt op_gt (s_op od_and op_and (sv 5) (sv 4)) s_int (nomark _)) (s_op od_xor op_xor (sv 5) (sv 3)) (sv 5))))) (SF.val (f_lst (a_cons (sv 3) a_nil)))) nd))) b_nil))))
    (b_one (t_retF (f_cb co_sorted cr_sortedI B.sorted PyProof.Rows.boot_sorted (a_cons (sv 1) a_nil))))))⟩
abbrev N_Fold_onto : List Str := ["self"]
theorem sc_Fold_onto : FnScope N_Fold_onto ["self"] (defScope s_Fold_onto) := ⟨rfl, rfl, rfl, by decide +kernel, rfl, by decide +kernel, by decide +kernel⟩
theorem ok_Fold_onto {f : Addr} {fd : FuncData} (F : FnPk K "onto" "Fold.onto" s_Fold_onto [] [] f fd) (B : Bl mg) (C_Fold : Cls K ((GY K ca T).ca "Fold")) (n_Fold_lines : NoAttr K ((GY K ca T).ca "Fold") "lines") (h_basis_of : Kn P w K mg base (GY K ca T) 3 "basis_of" 1 m_basis_of [] []) (n_Fold_wide : NoAttr K ((GY K ca T).ca "Fold") "wide") : FnOk P w K mg base (L2N.CX P w) 4 f fd ["self"] (spOf (GY K ca T) 1 m_Fold_onto) :=
  fn_sim (GY K ca T) F sc_Fold_onto rfl fun cdv A outer s H E hr tk po => by
  have nd := sc_Fold_onto.nd
  exact ⟨_, (b_one (t_ret (s_cmp od_eq (op_eqD hr.units) (s_cb cd_len cr_len B.len PySem.boot_len (a_cons (u_call h_basis_of (hr.mono (by decide)) tk (a_cons (s_fld "Fold" C_Fold n_Fold_lines (sv 0)) a_nil)) a_nil)) (s_fld "Fold" C_Fold n_Fold_wide (sv 0)) (nomark _))))⟩
abbrev N_Body_need_spread : List Str := ["self", "rows", "many", "spread", "row"]
theorem sc_Body_need_spread : FnScope N_Body_need_spread ["self", "rows", "many"] (defScope s_Body_need_spread) := ⟨rfl, rfl, rfl, by decide +kernel, rfl, by decide +kernel, by decide +kernel⟩
theorem ok_Body_need_spread {f : Addr} {fd : FuncData} (F : FnPk K "need_spread" "Body.need_spread" s_Body_need_spread [] [] f fd) (B : Bl mg) (C_Body : Cls K ((GY K ca T).ca "Body")) (n_Body_wide : NoAttr K ((GY K ca T).ca "Body") "wide") (x_BadRows : KnX K mg (GY K ca T) "BadRows") (k_Fold : KnC P w K mg base (GY K ca T) 1 "Fold" 3 m_FoldU_initU [] []) (h_Fold_onto : KnM P w K mg base (GY K ca T) 4 "Fold" "onto" 1 m_Fold_onto [] []) : FnOk P w K mg base (L2N.CX P w) 5 f fd ["self", "rows", "many"] (spOf (GY K ca T) 3 m_Body_need_spread) :=
  fn_sim (GY K ca T) F sc_Body_need_spread rfl fun cdv A outer s H E hr tk po => by
  have nd := sc_Body_need_spread.nd
  exact ⟨_, (b_cons (t_if (SW.sc (w_or (c_cmp od_ne (op_neD hr.units) (s_cb cd_len cr_len B.len PySem.boot_len (a_cons (sv 1) a_nil)) (s_op od_add op_addD (s_ix od_ix ix_lt (s_fld "Body" C_Body n_Body_wide (sv 0)) s_int (fun _ _ => rfl)) (s_ix od_ix ix_lt (s_fld "Body" C_Body n_Body_wide (sv 0)) s_int (fun _ _ => rfl))) (nomark _)) (w_or1 (c_val (s_cb cd_any (cr_any rfl) B.any (by decide +kernel : bootBuiltins "any" = some (.builtin "any")) (a_cons (SF.val (f_lc (own := [("row", 4)]) nd (i_seq (sv 1)) (blkOk_by (own := [("row", 4)]) (N := N_Body_need_spread) (sc := defScope s_Body_need_spread) (by decide +kernel)) (fun _ _ _ _ _ => (u_g 4 nd)) (fun _ _ _ _ _ => ts_nil) (fun _ _ _ _ _ => (s_or (s_cmp od_lt op_lt (sv 4) s_int (nomark _)) (s_one (s_cmp od_gt op_gt (s_op od_shr op_shr (sv 4) (sv 2)) s_int (nomark _))))))) a_nil)))))) (b_one (u_raise x_BadRows tk)) b_nil)
    (b_cons (u_set 3 (u_new k_Fold (hr.mono (by decide)) tk (a_cons (sv 1) (a_cons (sv 2) a_nil))) nd)
    (b_cons (t_if (c_not (c_val (u_meth0 "Fold" h_Fold_onto (hr.mono (by decide)) tk (sv 3)))) (b_one (u_raise x_BadRows tk)) b_nil)
    (b_one (t_ret (sv 3))))))⟩
abbrev N_Body_lay : List Str := ["self", "name", "rows", "cells", "many", "cell"]
theorem sc_Body_lay : FnScope N_Body_lay ["self", "name", "rows", "cells"] (defScope s_Body_lay) := ⟨rfl, rfl, rfl, by decide +kernel, rfl, by decide +kernel, by decide +kernel⟩
theorem ok_Body_lay {f : Addr} {fd : FuncData} (F : FnPk K "lay" "Body.lay" s_Body_lay [] [] f fd) (B : Bl mg) (h_Body_need_new : KnM P w K mg base (GY K ca T) 2 "Body" "need_new" 2 m_Body_need_new [] []) (C_Body : Cls K ((GY K ca T).ca "Body")) (n_Body_wide : NoAttr K ((GY K ca T).ca "Body") "wide") (h_digits_of : Kn P w K mg base (GY K ca T) 1 "digits_of" 2 m_digits_of [] []) (c_MOST : ∃ u, mg "MOST" = some (.int 1000000000 u)) (x_BadCells : KnX K mg (GY K ca T) "BadCells") (n_Body_tables : NoAttr K ((GY K ca T).ca "Body") "tables") (h_Body_need_spread : KnM P w K mg base (GY K ca T) 5 "Body" "need_spread" 3 m_Body_need_spread [] []) (h_laid : Kn P w K mg base (GY K ca T) 4 "laid" 2 m_laid [] []) : FnOk P w K mg base (L2N.CX P w) 6 f fd ["self", "name", "rows", "cells"] (spOf (GY K ca T) 4 m_Body_lay) :=
  fn_sim (GY K ca T) F sc_Body_lay rfl fun cdv A outer s H E hr tk po => by
  have nd := sc_Body_lay.nd
  exact ⟨_, (b_cons (t_expr (u_meth "Body" h_Body_need_new (hr.mono (by decide)) tk (sv 0) (a_cons (sv 1) a_nil)))
    (b_cons (u_set 4 (u_call h_digits_of (hr.mono (by decide)) tk (a_cons (s_cb cd_len cr_len B.len PySem.boot_len (a_cons (sv 3) a_nil)) (a_cons (s_op od_add op_addD (s_ix od_ix ix_lt (s_fld "Body" C_Body n_Body_wide (sv 0)) s_int (fun _ _ => rfl)) (s_ix od_ix ix_lt (s_fld "Body" C_Body n_Body_wide (sv 0)) s_int (fun _ _ => rfl))) a_nil))) nd)
    (b_cons (t_if (c_val (s_cb cd_any (cr_any rfl) B.any (by decide +kernel : bootBuiltins "any" = some (.builtin "any")) (a_cons (SF.val (f_lc (own := [("cell", 5)]) nd (i_seq (sv 3)) (blkOk_by (own := [("cell", 5)]) (N := N_Body_lay) (sc := defScope s_Body_lay) (by decide +kernel)) (fun _ _ _ _ _ => (u_g 5 nd)) (fun _ _ _ _ _ => ts_nil) (fun _ _ _ _ _ => (s_or (s_cmp od_lt op_lt (sv 5) (s_un ud_neg un_neg (u_int c_MOST)) (nomark _)) (s_one (s_cmp od_gt op_gt (sv 5) (u_int c_MOST) (nomark _))))))) a_nil))) (b_one (u_raise x_BadCells tk)) b_nil)
    (b_one (t_dput hr.units (s_fld "Body" C_Body n_Body_tables (sv 0)) (sv 1) (u_call h_laid (hr.mono (by decide)) tk (a_cons (u_meth "Body" h_Body_need_spread (hr.mono (by decide)) tk (sv 0) (a_cons (sv 2) (a_cons (sv 4) a_nil))) (a_cons (SF.val (f_ct co_list call_list_of B.list PyProof.Rows.boot_list (a_cons (sv 3) a_nil))) a_nil))))))))⟩
abbrev N_Body_need : List Str := ["self", "name"]
theorem sc_Body_need : FnScope N_Body_need ["self", "name"] (defScope s_Body_need) := ⟨rfl, rfl, rfl, by decide +kernel, rfl, by decide +kernel, by decide +kernel⟩
theorem ok_Body_need {f : Addr} {fd : FuncData} (F : FnPk K "need" "Body.need" s_Body_need [] [] f fd) (C_Body : Cls K ((GY K ca T).ca "Body")) (n_Body_tables : NoAttr K ((GY K ca T).ca "Body") "tables") (xf_NoTable : KnF P w K mg base (GY K ca T) "NoTable") : FnOk P w K mg base (L2N.CX P w) 3 f fd ["self", "name"] (spOf (GY K ca T) 2 m_Body_need) :=
  fn_sim (GY K ca T) F sc_Body_need rfl fun cdv A outer s H E hr tk po => by
  have nd := sc_Body_need.nd
  exact ⟨_, (b_cons (t_if (c_dnin hr.units (sv 1) (s_fld "Body" C_Body n_Body_tables (sv 0))) (b_one (u_raiseF xf_NoTable (hr.mono (by decide)) tk (sv 1))) b_nil)
    (b_one (t_ret (s_dget hr.units (s_fld "Body" C_Body n_Body_tables (sv 0)) (sv 1) (fun _ _ => rfl)))))⟩
abbrev N_Table_berth_now : List Str := ["self", "berth"]
theorem sc_Table_berth_now : FnScope N_Table_berth_now ["self", "berth"] (defScope s_Table_berth_now) := ⟨rfl, rfl, rfl, by decide +kernel, rfl, by decide +kernel, by decide +kernel⟩
theorem ok_Table_berth_now {f : Addr} {fd : FuncData} (F : FnPk K "berth_now" "Table.berth_now" s_Table_berth_now [] [] f fd) (C_Table : Cls K ((GY K ca T).ca "Table")) (n_Table_move : NoAttr K ((GY K ca T).ca "Table") "move") (n_Table_grip : NoAttr K ((GY K ca T).ca "Table") "grip") : FnOk P w K mg base (L2N.CX P w) 1 f fd ["self", "berth"] (spOf (GY K ca T) 2 m_Table_berth_now_k68) :=
  fn_sim (GY K ca T) F sc_Table_berth_now rfl fun cdv A outer s H E hr tk po => by
  have nd := sc_Table_berth_now.nd
  exact ⟨_, (b_cons (t_if (SW.sc (w_and (c_cmp od_isnot op_notN (s_fld "Table" C_Table n_Table_move (sv 0)) s_non (nomark _)) (w_and1 (c_val s_dead)))) (b_one (t_ret s_dead)) b_nil)
    (b_one (t_ret (s_ix od_ix ix_lt (s_fld "Table" C_Table n_Table_grip (sv 0)) (sv 1) (fun _ _ => rfl)))))⟩
abbrev N_Body_held : List Str := ["self", "name", "berth", "table"]
theorem sc_Body_held : FnScope N_Body_held ["self", "name", "berth"] (defScope s_Body_held) := ⟨rfl, rfl, rfl, by decide +kernel, rfl, by decide +kernel, by decide +kernel⟩
theorem ok_Body_held {f : Addr} {fd : FuncData} (F : FnPk K "held" "Body.held" s_Body_held [] [] f fd) (B : Bl mg) (h_Body_need : KnM P w K mg base (GY K ca T) 3 "Body" "need" 2 m_Body_need [] []) (C_Table : Cls K ((GY K ca T).ca "Table")) (n_Table_grip : NoAttr K ((GY K ca T).ca "Table") "grip") (x_NoBerth : KnX K mg (GY K ca T) "NoBerth") (h_Table_berth_now : KnM P w K mg base (GY K ca T) 1 "Table" "berth_now" 2 m_Table_berth_now_k68 [] []) : FnOk P w K mg base (L2N.CX P w) 4 f fd ["self", "name", "berth"] (spOf (GY K ca T) 3 m_Body_held_k68) :=
  fn_sim (GY K ca T) F sc_Body_held rfl fun cdv A outer s H E hr tk po => by
  have nd := sc_Body_held.nd
  exact ⟨_, (b_cons (u_set 3 (u_meth "Body" h_Body_need (hr.mono (by decide)) tk (sv 0) (a_cons (sv 1) a_nil)) nd)
    (b_cons (t_if (SW.sc (w_or (c_cmp od_lt op_lt (sv 2) s_int (nomark _)) (w_or1 (c_cmp od_ge op_ge (sv 2) (s_cb cd_len cr_len B.len PySem.boot_len (a_cons (s_fld "Table" C_Table n_Table_grip (sv 3)) a_nil)) (nomark _))))) (b_one (u_raise x_NoBerth tk)) b_nil)
    (b_one (t_ret (u_meth "Table" h_Table_berth_now (hr.mono (by decide)) tk (sv 3) (a_cons (sv 2) a_nil))))))⟩
abbrev N__law_images : List Str := ["_law_lines_here", "_law_found", "_law_line", "_law_one"]
theorem sc__law_images : FnScope N__law_images ["_law_lines_here"] (defScope s__law_images) := ⟨rfl, rfl, rfl, by decide +kernel, rfl, by decide +kernel, by decide +kernel⟩
theorem ok__law_images {f : Addr} {fd : FuncData} (F : FnPk K "_law_images" "_law_images" s__law_images [] [] f fd) : FnOk P w K mg base (L2N.CX P w) 1 f fd ["_law_lines_here"] (spOf (GY K ca T) 1 m__law_images) :=
  fn_sim (GY K ca T) F sc__law_images rfl fun cdv A outer s H E hr tk po => by
  have nd := sc__law_images.nd
  exact ⟨_, (b_cons (u_set 1 (SF.val (f_lst (a_cons s_int a_nil))) nd)
    (b_cons (t_for po (i_seq (sv 0)) (u_g 2 nd) (b_one (u_set 1 (s_op od_add op_addD (sv 1) (SF.val (f_lc (own := [("_law_one", 3)]) nd (i_seq (sv 1)) (blkOk_by (own := [("_law_one", 3)]) (N := N__law_images) (sc := defScope s__law_images) (by decide +kernel)) (fun _ _ _ _ _ => (u_g 3 nd)) (fun _ _ _ _ _ => ts_nil) (fun _ _ _ _ _ => (s_op od_xor op_xor (sv 3) (sv 2)))))) nd)))
    (b_one (t_ret (sv 1)))))⟩
abbrev N_Fold_rows : List Str := ["self"]
theorem sc_Fold_rows : FnScope N_Fold_rows ["self"] (defScope s_Fold_rows) := ⟨rfl, rfl, rfl, by decide +kernel, rfl, by decide +kernel, by decide +kernel⟩
theorem ok_Fold_rows {f : Addr} {fd : FuncData} (F : FnPk K "rows" "Fold.rows" s_Fold_rows [] [] f fd) (C_Fold : Cls K ((GY K ca T).ca "Fold")) (n_Fold_lines : NoAttr K ((GY K ca T).ca "Fold") "lines") : FnOk P w K mg base (L2N.CX P w) 1 f fd ["self"] (spOf (GY K ca T) 1 m_Fold_rows) :=
  fn_sim (GY K ca T) F sc_Fold_rows rfl fun cdv A outer s H E hr tk po => by
  have nd := sc_Fold_rows.nd
  exact ⟨_, (b_one (t_ret (s_fld "Fold" C_Fold n_Fold_lines (sv 0))))⟩
abbrev N_Fold_size : List Str := ["self"]
theorem sc_Fold_size : FnScope N_Fold_size ["self"] (defScope s_Fold_size) := ⟨rfl, rfl, rfl, by decide +kernel, rfl, by decide +kernel, by decide +kernel⟩
theorem ok_Fold_size {f : Addr} {fd : FuncData} (F : FnPk K "size" "Fold.size" s_Fold_size [] [] f fd) (C_Fold : Cls K ((GY K ca T).ca "Fold")) (n_Fold_wide : NoAttr K ((GY K ca T).ca "Fold") "wide") : FnOk P w K mg base (L2N.CX P w) 1 f fd ["self"] (spOf (GY K ca T) 1 m_Fold_size) :=
  fn_sim (GY K ca T) F sc_Fold_size rfl fun cdv A outer s H E hr tk po => by
  have nd := sc_Fold_size.nd
  exact ⟨_, (b_one (t_ret (s_fld "Fold" C_Fold n_Fold_wide (sv 0))))⟩
abbrev N_Fold_then : List Str := ["self", "other", "row"]
theorem sc_Fold_then : FnScope N_Fold_then ["self", "other"] (defScope s_Fold_then) := ⟨rfl, rfl, rfl, by decide +kernel, rfl, by decide +kernel, by decide +kernel⟩
theorem ok_Fold_then {f : Addr} {fd : FuncData} (F : FnPk K "then" "Fold.then" s_Fold_then [] [] f fd) (h_Fold_many : KnM P w K mg base (GY K ca T) 1 "Fold" "many" 1 m_Fold_many [] []) (C_Fold : Cls K ((GY K ca T).ca "Fold")) (n_Fold_wide : NoAttr K ((GY K ca T).ca "Fold") "wide") (x_Unfit : KnX K mg (GY K ca T) "Unfit") (k_Fold : KnC P w K mg base (GY K ca T) 1 "Fold" 3 m_FoldU_initU [] []) (h_Fold_size : KnM P w K mg base (GY K ca T) 1 "Fold" "size" 1 m_Fold_size [] []) (n_Fold_lines : NoAttr K ((GY K ca T).ca "Fold") "lines") (h_Fold_to : KnM P w K mg base (GY K ca T) 3 "Fold" "to" 2 m_Fold_to [] []) : FnOk P w K mg base (L2N.CX P w) 4 f fd ["self", "other"] (spOf (GY K ca T) 2 m_Fold_then) :=
  fn_sim (GY K ca T) F sc_Fold_then rfl fun cdv A outer s H E hr tk po => by
  have nd := sc_Fold_then.nd
  exact ⟨_, (b_cons (t_if (c_cmp od_ne (op_neD hr.units) (u_meth0 "Fold" h_Fold_many (hr.mono (by decide)) tk (sv 1)) (s_fld "Fold" C_Fold n_Fold_wide (sv 0)) (nomark _)) (b_one (u_raise x_Unfit tk)) b_nil)
    (b_one (t_ret (u_new k_Fold (hr.mono (by decide)) tk (a_cons (SF.val (f_lc (own := [("row", 2)]) nd (i_seq (s_fld "Fold" C_Fold n_Fold_lines (sv 0))) (blkOk_by (own := [("row", 2)]) (N := N_Fold_then) (sc := defScope s_Fold_then) (by decide +kernel)) (fun _ _ _ _ _ => (u_g 2 nd)) (fun _ _ _ _ _ => ts_nil) (fun _ _ _ _ _ => (u_meth "Fold" h_Fold_to (hr.mono (by decide)) takesN (sv 1) (a_cons (sv 2) a_nil))))) (a_cons (u_meth0 "Fold" h_Fold_size (hr.mono (by decide)) tk (sv 1)) a_nil))))))⟩
abbrev N_law : List Str := ["_law_script", "_law_box_z", "_law_wide_here", "_law_deep", "_law_left", "_law_sides", "_law_name", "_law_count", "_law_many", "_law_lines_here", "_law_text", "_law_found", "_law_body", "_law_cells_here", "_law_held", "_law_names", "_law_again", "_law_other", "_law_order", "_law_turned_sides", "_law_moved", "_law_starts", "_law_at", "_law_turned_z", "_law_row", "_law_k", "_law_cell", "_law_line"]
theorem sc_law : FnScope N_law ["_law_script"] (defScope s_law) := ⟨rfl, rfl, rfl, by decide +kernel, rfl, by decide +kernel, by decide +kernel⟩
theorem ok_law {f : Addr} {fd : FuncData} (F : FnPk K "law" "law" s_law [] [] f fd) (B : Bl mg) (h__law_box : Kn P w K mg base (GY K ca T) 1 "_law_box" 1 m__law_box [] []) (h__law_wide : Kn P w K mg base (GY K ca T) 3 "_law_wide" 1 m__law_wide [] []) (h__law_take : Kn P w K mg base (GY K ca T) 1 "_law_take" 2 m__law_take [] []) (h__law_shuffled : Kn P w K mg base (GY K ca T) 2 "_law_shuffled" 2 m__law_shuffled [] []) (h__law_lines : Kn P w K mg base (GY K ca T) 3 "_law_lines" 3 m__law_lines [] []) (h_spread_text_2_box_lane : KnK P w K mg base (GY K ca T) 3 "spread_text" 2 ["box", "lane"] m_spread_text [] []) (h_read_spread_2_box_lane : KnK P w K mg base (GY K ca T) 5 "read_spread" 2 ["box", "lane"] m_read_spread [] []) (k_Body_2_banks : KnCK P w K mg base (GY K ca T) 1 "Body" 2 ["banks"] m_BodyU_initU [] []) (h__law_cells : Kn P w K mg base (GY K ca T) 3 "_law_cells" 2 m__law_cells [] []) (h_Body_lay : KnM P w K mg base (GY K ca T) 6 "Body" "lay" 4 m_Body_lay [] []) (h_Body_held : KnM P w K mg base (GY K ca T) 4 "Body" "held" 3 m_Body_held_k68 [] []) (h__law_images : Kn P w K mg base (GY K ca T) 1 "_law_images" 1 m__law_images [] []) (hp_spread_text_2_lane_box : KnKP P w K mg base (GY K ca T) 3 "spread_text" 2 ["lane", "box"] [1, 0] m_spread_text) (k_Fold : KnC P w K mg base (GY K ca T) 1 "Fold" 3 m_FoldU_initU [] []) (h_Fold_rows : KnM P w K mg base (GY K ca T) 1 "Fold" "rows" 1 m_Fold_rows [] []) (h_Fold_then : KnM P w K mg base (GY K ca T) 4 "Fold" "then" 2 m_Fold_then [] []) : FnOk P w K mg base (L2N.CX P w) 7 f fd ["_law_script"] (spOf (GY K ca T) 1 m_law) :=
  fn_sim (GY K ca T) F sc_law rfl fun cdv A outer s H E hr tk po => by
  have nd := sc_law.nd
  exact ⟨_, (b_cons (u_cell 1 (v_call h__law_box (hr.mono (by decide)) tk (a_cons (sv 0) a_nil)) nd)
    (b_cons (u_set 2 (u_call h__law_wide (hr.mono (by decide)) tk (a_cons (sv 1) a_nil)) nd)
    (b_cons (u_set 3 (s_op od_add op_addD (s_ix od_ix ix_lt (sv 2) s_int (fun _ _ => rfl)) (s_ix od_ix ix_lt (sv 2) s_int (fun _ _ => rfl))) nd)
    (b_cons (u_set 4 (s_cb cd_max2 (call_max2 rfl) B.max (by decide +kernel : bootBuiltins "max" = some (.builtin "max")) (a_cons s_int (a_cons (s_op od_sub op_sub (sv 3) (u_call h__law_take (hr.mono (by decide)) tk (a_cons (sv 1) (a_cons s_int a_nil)))) a_nil))) nd)
    (b_cons (u_own 5 (f_lst a_nil) nd)
    (b_cons (t_for po (i_seq (u_call h__law_shuffled (hr.mono (by decide)) tk (a_cons (sv 1) (a_cons (SF.val (f_lst (a_cons s_str (a_cons s_str (a_cons s_str a_nil))))) a_nil)))) (u_g 6 nd) (b_cons (u_set 7 (s_if (c_cmp od_lt op_lt (u_lenA 5 B.len) s_int (nomark _)) (u_call h__law_take (hr.mono (by decide)) tk (a_cons (sv 1) (a_cons (s_op od_add op_addD (sv 4) s_int) a_nil))) (sv 4)) nd)
    (b_cons (t_app 5 (s_tup (a_cons (sv 6) (a_cons (sv 7) a_nil))))
    (b_one (u_aug 4 ip_sub (sv 7) nd)))))
    (b_frz 5 (b_cons (u_set 8 (s_cb cd_sum (cr_sum rfl) B.sum (by decide +kernel : bootBuiltins "sum" = some (.builtin "sum")) (a_cons (SF.val (f_lc (own := [("_law_row", 24)]) nd (i_seq (sv 5)) (blkOk_by (own := [("_law_row", 24)]) (N := N_law) (sc := defScope s_law) (by decide +kernel)) (fun _ _ _ _ _ => (u_g 24 nd)) (fun _ _ _ _ _ => ts_nil) (fun _ _ _ _ _ => (s_ix od_ix ix_lt (sv 24) s_int (fun _ _ => rfl))))) a_nil)) nd)
    (b_cons (u_set 9 (u_call h__law_lines (hr.mono (by decide)) tk (a_cons (sv 1) (a_cons (sv 3) (a_cons (sv 8) a_nil)))) nd)
    (b_frz 5 (b_cons (u_set 10 (u_callK h_spread_text_2_box_lane (hr.mono (by decide)) tk (a_cons (sv 9) (a_cons (sv 5) a_nil)) (k_cons (s_ix od_ix ix_lt (sv 2) s_int (fun _ _ => rfl)) (k_cons (s_ix od_ix ix_lt (sv 2) s_int (fun _ _ => rfl)) k_nil))) nd)
    (b_tok (i := 11) (u_callK h_read_spread_2_box_lane (hr.mono (by decide)) tk (a_cons (sv 10) (a_cons (sv 5) a_nil)) (k_cons (s_ix od_ix ix_lt (sv 2) s_int (fun _ _ => rfl)) (k_cons (s_ix od_ix ix_lt (sv 2) s_int (fun _ _ => rfl)) k_nil)))
    (bT_cons (u_set 12 (u_newCK k_Body_2_banks (hr.mono (by decide)) tk (a_cons (s_ix od_ix ix_lt (sv 2) s_int (fun _ _ => rfl)) (a_cons (s_ix od_ix ix_lt (sv 2) s_int (fun _ _ => rfl)) a_nil)) (k_cons (s_ix od_ix ix_lt (sv 2) s_int (fun _ _ => rfl)) k_nil)) nd)
    (bT_cons (u_set 13 (u_call h__law_cells (hr.mono (by decide)) tk (a_cons (sv 1) (a_cons (sv 8) a_nil))) nd)
    (bT_cons (t_expr (u_meth "Body" h_Body_lay (hr.mono (by decide)) tk (sv 12) (a_cons s_str (a_cons (sv 11) (a_cons (sv 13) a_nil)))))
    (bT_cons (t_setLc (i := 14) (own := [("_law_k", 25)]) nd rfl rfl (sw_true rfl rfl rfl (by decide +kernel)) (i_range1 B.range (a_cons (s_op od_shl op_shl s_int (sv 3)) a_nil)) (blkOk_by (own := [("_law_k", 25)]) (N := N_law) (sc := defScope s_law) (by decide +kernel)) (fun _ _ _ _ _ => (u_g 25 nd)) (fun _ _ _ _ _ => ts_nil) (fun _ _ _ _ _ => (u_meth "Body" h_Body_held (hr.mono (by decide)) takesN (sv 12) (a_cons s_str (a_cons (sv 25) a_nil)))))
    (bT_cons (t_if (SW.sc (w_or (c_cmp od_ne (op_neD hr.units) (sv 11) (sv 9) (nomark _)) (w_or1 (c_cmp od_ne (op_neD hr.units) (sv 14) (SF.val (f_lc (own := [("_law_cell", 26)]) nd (i_seq (u_call h__law_images (hr.mono (by decide)) tk (a_cons (sv 9) a_nil))) (blkOk_by (own := [("_law_cell", 26)]) (N := N_law) (sc := defScope s_law) (by decide +kernel)) (fun _ _ _ _ _ => (u_g 26 nd)) (fun _ _ _ _ _ => ts_nil) (fun _ _ _ _ _ => (s_ix od_ix ix_lt (sv 13) (sv 26) (fun _ _ => rfl))))) (nomark _))))) (b_one (t_ret s_bl)) b_nil)
    (bT_cons (t_if (c_cmp od_ne (op_neD hr.units) (s_cntS (sv 10) s_str) (s_cb cd_len cr_len B.len PySem.boot_len (a_cons (SF.val (f_lc (own := [("_law_line", 27)]) nd (i_seq (sv 9)) (blkOk_by (own := [("_law_line", 27)]) (N := N_law) (sc := defScope s_law) (by decide +kernel)) (fun _ _ _ _ _ => (u_g 27 nd)) (fun _ _ _ _ _ => (ts_one (c_cmp od_gt op_gt (sv 27) s_int (nomark _)))) (fun _ _ _ _ _ => (sv 27)))) a_nil)) (nomark _)) (b_one (t_ret s_bl)) b_nil)
    (bR_start (j := 15) [("row", "x"), ("col", "yy"), ("deep", "zzzzzz")] (.cons (.cons (.cons .nil))) (bR_lc (i := 16) (own := [("_law_name", 6), ("_law_count", 7)]) nd rfl rfl (sw_true rfl rfl rfl (by decide +kernel)) (i_seq (sv 5)) (blkOk_by (own := [("_law_name", 6), ("_law_count", 7)]) (N := N_law) (sc := defScope s_law) (by decide +kernel)) (fun _ _ _ _ _ => (g_tup (gs_cons (u_g 6 nd) (gs_cons (u_g 7 nd) gs_nil)))) (fun _ _ _ _ _ => ts_nil) (fun _ _ _ _ _ => (s_tup (a_cons (s_dgetA 15 hr.units (sv 6) (fun _ _ => rfl)) (a_cons (sv 7) a_nil))))
    (bR_asg (i := 17) (u_callK h_spread_text_2_box_lane (hr.mono (by decide)) tk (a_cons (sv 9) (a_cons (sv 16) a_nil)) (k_cons (s_ix od_ix ix_lt (sv 2) s_int (fun _ _ => rfl)) (k_cons (s_ix od_ix ix_lt (sv 2) s_int (fun _ _ => rfl)) k_nil)))
    (bR_repl (ik := 10) (iv := 6) (b_cons (t_if (c_cmp od_ne (op_neD hr.units) (sv 17) (sv 10) (nomark _)) (b_one (t_ret s_bl)) b_nil)
    (b_cons (u_set 18 (u_call h__law_shuffled (hr.mono (by decide)) tk (a_cons (sv 1) (a_cons (SF.val (f_lstR1 B.list B.range s_int)) a_nil))) nd)
    (b_frz 5 (b_cons (u_set 10 (u_callKP hp_spread_text_2_lane_box (hr.mono (by decide)) tk (a_cons (sv 9) (a_cons (sv 5) a_nil)) (k_cons (s_ix od_ix ix_lt (sv 2) s_int (fun _ _ => rfl)) (k_cons (s_ix od_ix ix_lt (sv 2) s_int (fun _ _ => rfl)) k_nil))) nd)
    (b_frz 5 (b_cons (t_setLc (i := 19) (own := [("_law_at", 22)]) nd rfl rfl (sw_true rfl rfl rfl (by decide +kernel)) (i_seq (sv 18)) (blkOk_by (own := [("_law_at", 22)]) (N := N_law) (sc := defScope s_law) (by decide +kernel)) (fun _ _ _ _ _ => (u_g 22 nd)) (fun _ _ _ _ _ => ts_nil) (fun _ _ _ _ _ => (u_ixA 5 (sv 22) (fun _ _ => rfl))))
    (b_cons (u_set 16 (u_callK h_read_spread_2_box_lane (hr.mono (by decide)) tk (a_cons (sv 10) (a_cons (sv 19) a_nil)) (k_cons (s_ix od_ix ix_lt (sv 2) s_int (fun _ _ => rfl)) (k_cons (s_ix od_ix ix_lt (sv 2) s_int (fun _ _ => rfl)) k_nil))) nd)
    (b_cons (u_set 20 (SF.val (f_lst a_nil)) nd)
    (b_frz 5 (b_cons (u_set 21 (SF.val (f_lc (own := [("_law_at", 22)]) nd (i_range1 B.range (a_cons s_int a_nil)) (blkOk_by (own := [("_law_at", 22)]) (N := N_law) (sc := defScope s_law) (by decide +kernel)) (fun _ _ _ _ _ => (u_g 22 nd)) (fun _ _ _ _ _ => ts_nil) (fun _ _ _ _ _ => (s_cb cd_sum (cr_sum rfl) B.sum (by decide +kernel : bootBuiltins "sum" = some (.builtin "sum")) (a_cons (SF.val (f_lc (own := [("_law_name", 6), ("_law_count", 7)]) nd (i_seq (SF.val (f_sl (sv 5) o_none (o_some (sv 22))))) (blkOk_by (own := [("_law_name", 6), ("_law_count", 7)]) (N := N_law) (by exact rfl)) (fun _ _ _ _ _ => (g_tup (gs_cons (u_g 6 nd) (gs_cons (u_g 7 nd) gs_nil)))) (fun _ _ _ _ _ => ts_nil) (fun _ _ _ _ _ => (sv 7)))) a_nil))))) nd)
    (b_cons (t_for po (i_seq (sv 18)) (u_g 22 nd) (b_frz 5 (b_one (u_set 20 (s_op od_add op_addD (sv 20) (SF.val (f_lc (own := [("_law_k", 25)]) nd (i_range1 B.range (a_cons (s_ix od_ix ix_lt (u_ixA 5 (sv 22) (fun _ _ => rfl)) s_int (fun _ _ => rfl)) a_nil)) (blkOk_by (own := [("_law_k", 25)]) (N := N_law) (sc := defScope s_law) (by decide +kernel)) (fun _ _ _ _ _ => (u_g 25 nd)) (fun _ _ _ _ _ => ts_nil) (fun _ _ _ _ _ => (s_op od_add op_addD (s_ix od_ix ix_lt (sv 21) (sv 22) (fun _ _ => rfl)) (sv 25)))))) nd))))
    (b_cons (u_set 23 (u_new k_Fold (hr.mono (by decide)) tk (a_cons (SF.val (f_lc (own := [("_law_at", 22)]) nd (i_range1 B.range (a_cons (sv 8) a_nil)) (blkOk_by (own := [("_law_at", 22)]) (N := N_law) (sc := defScope s_law) (by decide +kernel)) (fun _ _ _ _ _ => (u_g 22 nd)) (fun _ _ _ _ _ => ts_nil) (fun _ _ _ _ _ => (s_op od_shl op_shl s_int (s_idx (sv 20) (sv 22)))))) (a_cons (sv 8) a_nil))) nd)
    (b_one (t_ret (s_cmp od_eq (op_eqD hr.units) (u_meth0 "Fold" h_Fold_rows (hr.mono (by decide)) tk (u_meth "Fold" h_Fold_then (hr.mono (by decide)) tk (u_new k_Fold (hr.mono (by decide)) tk (a_cons (sv 9) (a_cons (sv 8) a_nil))) (a_cons (sv 23) a_nil))) (sv 16) (nomark _)))))))))))))))) po nd) nd)) nd))))))) nd))))))))))))⟩
end
end K68
namespace K68
open PySem L2 Mm Fb
def tf : List (He.Defn × Str) := []
theorem facts {P : Program} {w : World} {K : PySem.W.Frag} {h : Heap} {mg : Str → Option Value} {f : Addr} (X : K.In h) (G : h.Ns mainGlobals mg) (hfa : mg ("law" : Str) = some (.ref f)) (c : He.SaysX facl fns [] (tf.map (·.1)) ex w h K) :
    ∃ fd : FuncData, (∀ (s : Shared) (v : Value), BindsTo s fd ⟨[v], []⟩ [("_law_script", v)]) ∧ ∀ base : Heap, (∀ q ∈ tf, LamX.TabB base mg (He.cT K q.1).1 (He.cT K q.1).2) → FnOk P w K mg base (L2N.CX P w) 7 f fd ["_law_script"] (spOf (GY K (He.ga K) (Tof K tf)) 1 m_law) := by
  obtain ⟨fd_BadTextU_initU, F'_BadTextU_initU⟩ := c.t.d.def_ 43 (d := d_BadTextU_initU) rfl
  have F_BadTextU_initU : FnPk K "__init__" "BadText.__init__" s_BadTextU_initU [] [] (He.ma K (He.ga K "BadText") "__init__") fd_BadTextU_initU := F'_BadTextU_initU
  obtain ⟨fd_NoTableU_initU, F'_NoTableU_initU⟩ := c.t.d.def_ 44 (d := d_NoTableU_initU) rfl
  have F_NoTableU_initU : FnPk K "__init__" "NoTable.__init__" s_NoTableU_initU [] [] (He.ma K (He.ga K "NoTable") "__init__") fd_NoTableU_initU := F'_NoTableU_initU
  obtain ⟨fd__law_box, F'__law_box⟩ := c.t.d.def_ 0 (d := d__law_box) rfl
  have F__law_box : FnPk K "_law_box" "_law_box" s__law_box [] [] (He.ga K "_law_box") fd__law_box := F'__law_box
  obtain ⟨fd__law_take, F'__law_take⟩ := c.t.d.def_ 1 (d := d__law_take) rfl
  have F__law_take : FnPk K "_law_take" "_law_take" s__law_take [] [] (He.ga K "_law_take") fd__law_take := F'__law_take
  obtain ⟨fd__law_of, F'__law_of⟩ := c.t.d.def_ 2 (d := d__law_of) rfl
  have F__law_of : FnPk K "_law_of" "_law_of" s__law_of [] [] (He.ga K "_law_of") fd__law_of := F'__law_of
  obtain ⟨fd__law_wide, F'__law_wide⟩ := c.t.d.def_ 3 (d := d__law_wide) rfl
  have F__law_wide : FnPk K "_law_wide" "_law_wide" s__law_wide [] [] (He.ga K "_law_wide") fd__law_wide := F'__law_wide
  obtain ⟨fd__law_shuffled, F'__law_shuffled⟩ := c.t.d.def_ 4 (d := d__law_shuffled) rfl
  have F__law_shuffled : FnPk K "_law_shuffled" "_law_shuffled" s__law_shuffled [] [] (He.ga K "_law_shuffled") fd__law_shuffled := F'__law_shuffled
  obtain ⟨fd__law_numbers, F'__law_numbers⟩ := c.t.d.def_ 5 (d := d__law_numbers) rfl
  have F__law_numbers : FnPk K "_law_numbers" "_law_numbers" s__law_numbers [] [] (He.ga K "_law_numbers") fd__law_numbers := F'__law_numbers
  obtain ⟨fd__law_lines, F'__law_lines⟩ := c.t.d.def_ 6 (d := d__law_lines) rfl
  have F__law_lines : FnPk K "_law_lines" "_law_lines" s__law_lines [] [] (He.ga K "_law_lines") fd__law_lines := F'__law_lines
  obtain ⟨fd_is_name, F'_is_name⟩ := c.t.d.def_ 7 (d := d_is_name) rfl
  have F_is_name : FnPk K "is_name" "is_name" s_is_name [] [] (He.ga K "is_name") fd_is_name := F'_is_name
  obtain ⟨fd_need_sides, F'_need_sides⟩ := c.t.d.def_ 8 (d := d_need_sides) rfl
  have F_need_sides : FnPk K "need_sides" "need_sides" s_need_sides [] [] (He.ga K "need_sides") fd_need_sides := F'_need_sides
  obtain ⟨fd_words_of, F'_words_of⟩ := c.t.d.def_ 9 (d := d_words_of) rfl
  have F_words_of : FnPk K "words_of" "words_of" s_words_of [] [] (He.ga K "words_of") fd_words_of := F'_words_of
  obtain ⟨fd_spread_text, F'_spread_text⟩ := c.t.d.def_ 10 (d := d_spread_text) rfl
  have F_spread_text : FnPk K "spread_text" "spread_text" s_spread_text [] [("lane", .int 0)] (He.ga K "spread_text") fd_spread_text := F'_spread_text
  obtain ⟨fd_parts_of, F'_parts_of⟩ := c.t.d.def_ 11 (d := d_parts_of) rfl
  have F_parts_of : FnPk K "parts_of" "parts_of" s_parts_of [] [] (He.ga K "parts_of") fd_parts_of := F'_parts_of
  obtain ⟨fd_ReaderU_initU, F'_ReaderU_initU⟩ := c.t.d.def_ 12 (d := d_ReaderU_initU) rfl
  have F_ReaderU_initU : FnPk K "__init__" "Reader.__init__" s_ReaderU_initU [] [] (He.ma K (He.ga K "Reader") "__init__") fd_ReaderU_initU := F'_ReaderU_initU
  obtain ⟨fd_Reader_ahead, F'_Reader_ahead⟩ := c.t.d.def_ 13 (d := d_Reader_ahead) rfl
  have F_Reader_ahead : FnPk K "ahead" "Reader.ahead" s_Reader_ahead [] [] (He.ma K (He.ga K "Reader") "ahead") fd_Reader_ahead := F'_Reader_ahead
  obtain ⟨fd_Reader_wrong, F'_Reader_wrong⟩ := c.t.d.def_ 14 (d := d_Reader_wrong) rfl
  have F_Reader_wrong : FnPk K "wrong" "Reader.wrong" s_Reader_wrong [] [] (He.ma K (He.ga K "Reader") "wrong") fd_Reader_wrong := F'_Reader_wrong
  obtain ⟨fd_Reader_take, F'_Reader_take⟩ := c.t.d.def_ 15 (d := d_Reader_take) rfl
  have F_Reader_take : FnPk K "take" "Reader.take" s_Reader_take [] [] (He.ma K (He.ga K "Reader") "take") fd_Reader_take := F'_Reader_take
  obtain ⟨fd_read_sum, F'_read_sum⟩ := c.t.d.def_ 16 (d := d_read_sum) rfl
  have F_read_sum : FnPk K "read_sum" "read_sum" s_read_sum [] [] (He.ga K "read_sum") fd_read_sum := F'_read_sum
  obtain ⟨fd_read_spread, F'_read_spread⟩ := c.t.d.def_ 17 (d := d_read_spread) rfl
  have F_read_spread : FnPk K "read_spread" "read_spread" s_read_spread [] [("lane", .int 0)] (He.ga K "read_spread") fd_read_spread := F'_read_spread
  obtain ⟨fd_BodyU_initU, F'_BodyU_initU⟩ := c.t.d.def_ 18 (d := d_BodyU_initU) rfl
  have F_BodyU_initU : FnPk K "__init__" "Body.__init__" s_BodyU_initU [] [("banks", .int 2)] (He.ma K (He.ga K "Body") "__init__") fd_BodyU_initU := F'_BodyU_initU
  obtain ⟨fd__law_cells, F'__law_cells⟩ := c.t.d.def_ 19 (d := d__law_cells) rfl
  have F__law_cells : FnPk K "_law_cells" "_law_cells" s__law_cells [] [] (He.ga K "_law_cells") fd__law_cells := F'__law_cells
  obtain ⟨fd_Body_need_new, F'_Body_need_new⟩ := c.t.d.def_ 20 (d := d_Body_need_new) rfl
  have F_Body_need_new : FnPk K "need_new" "Body.need_new" s_Body_need_new [] [] (He.ma K (He.ga K "Body") "need_new") fd_Body_need_new := F'_Body_need_new
  obtain ⟨fd_digits_of, F'_digits_of⟩ := c.t.d.def_ 21 (d := d_digits_of) rfl
  have F_digits_of : FnPk K "digits_of" "digits_of" s_digits_of [] [] (He.ga K "digits_of") fd_digits_of := F'_digits_of
  obtain ⟨fd_TableU_initU, F'_TableU_initU⟩ := c.t.d.def_ 22 (d := d_TableU_initU) rfl
  have F_TableU_initU : FnPk K "__init__" "Table.__init__" s_TableU_initU [] [("move", .non)] (He.ma K (He.ga K "Table") "__init__") fd_TableU_initU := F'_TableU_initU
  obtain ⟨fd_Fold_many, F'_Fold_many⟩ := c.t.d.def_ 23 (d := d_Fold_many) rfl
  have F_Fold_many : FnPk K "many" "Fold.many" s_Fold_many [] [] (He.ma K (He.ga K "Fold") "many") fd_Fold_many := F'_Fold_many
  obtain ⟨fd_blended, F'_blended⟩ := c.t.d.def_ 24 (d := d_blended) rfl
  have F_blended : FnPk K "blended" "blended" s_blended [] [] (He.ga K "blended") fd_blended := F'_blended
  obtain ⟨fd_picked, F'_picked⟩ := c.t.d.def_ 25 (d := d_picked) rfl
  have F_picked : FnPk K "picked" "picked" s_picked [] [] (He.ga K "picked") fd_picked := F'_picked
  obtain ⟨fd_Fold_to, F'_Fold_to⟩ := c.t.d.def_ 26 (d := d_Fold_to) rfl
  have F_Fold_to : FnPk K "to" "Fold.to" s_Fold_to [] [] (He.ma K (He.ga K "Fold") "to") fd_Fold_to := F'_Fold_to
  obtain ⟨fd_laid, F'_laid⟩ := c.t.d.def_ 27 (d := d_laid) rfl
  have F_laid : FnPk K "laid" "laid" s_laid [] [] (He.ga K "laid") fd_laid := F'_laid
  obtain ⟨fd_FoldU_initU, F'_FoldU_initU⟩ := c.t.d.def_ 28 (d := d_FoldU_initU) rfl
  have F_FoldU_initU : FnPk K "__init__" "Fold.__init__" s_FoldU_initU [] [] (He.ma K (He.ga K "Fold") "__init__") fd_FoldU_initU := F'_FoldU_initU
  obtain ⟨fd_top_of, F'_top_of⟩ := c.t.d.def_ 29 (d := d_top_of) rfl
  have F_top_of : FnPk K "top_of" "top_of" s_top_of [] [] (He.ga K "top_of") fd_top_of := F'_top_of
  obtain ⟨fd_reduced, F'_reduced⟩ := c.t.d.def_ 30 (d := d_reduced) rfl
  have F_reduced : FnPk K "reduced" "reduced" s_reduced [] [] (He.ga K "reduced") fd_reduced := F'_reduced
  obtain ⟨fd_basis_of, F'_basis_of⟩ := c.t.d.def_ 31 (d := d_basis_of) rfl
  have F_basis_of : FnPk K "basis_of" "basis_of" s_basis_of [] [] (He.ga K "basis_of") fd_basis_of := F'_basis_of
  obtain ⟨fd_Fold_onto, F'_Fold_onto⟩ := c.t.d.def_ 32 (d := d_Fold_onto) rfl
  have F_Fold_onto : FnPk K "onto" "Fold.onto" s_Fold_onto [] [] (He.ma K (He.ga K "Fold") "onto") fd_Fold_onto := F'_Fold_onto
  obtain ⟨fd_Body_need_spread, F'_Body_need_spread⟩ := c.t.d.def_ 33 (d := d_Body_need_spread) rfl
  have F_Body_need_spread : FnPk K "need_spread" "Body.need_spread" s_Body_need_spread [] [] (He.ma K (He.ga K "Body") "need_spread") fd_Body_need_spread := F'_Body_need_spread
  obtain ⟨fd_Body_lay, F'_Body_lay⟩ := c.t.d.def_ 34 (d := d_Body_lay) rfl
  have F_Body_lay : FnPk K "lay" "Body.lay" s_Body_lay [] [] (He.ma K (He.ga K "Body") "lay") fd_Body_lay := F'_Body_lay
  obtain ⟨fd_Body_need, F'_Body_need⟩ := c.t.d.def_ 35 (d := d_Body_need) rfl
  have F_Body_need : FnPk K "need" "Body.need" s_Body_need [] [] (He.ma K (He.ga K "Body") "need") fd_Body_need := F'_Body_need
  obtain ⟨fd_Table_berth_now, F'_Table_berth_now⟩ := c.t.d.def_ 36 (d := d_Table_berth_now) rfl
  have F_Table_berth_now : FnPk K "berth_now" "Table.berth_now" s_Table_berth_now [] [] (He.ma K (He.ga K "Table") "berth_now") fd_Table_berth_now := F'_Table_berth_now
  obtain ⟨fd_Body_held, F'_Body_held⟩ := c.t.d.def_ 37 (d := d_Body_held) rfl
  have F_Body_held : FnPk K "held" "Body.held" s_Body_held [] [] (He.ma K (He.ga K "Body") "held") fd_Body_held := F'_Body_held
  obtain ⟨fd__law_images, F'__law_images⟩ := c.t.d.def_ 38 (d := d__law_images) rfl
  have F__law_images : FnPk K "_law_images" "_law_images" s__law_images [] [] (He.ga K "_law_images") fd__law_images := F'__law_images
  obtain ⟨fd_Fold_rows, F'_Fold_rows⟩ := c.t.d.def_ 39 (d := d_Fold_rows) rfl
  have F_Fold_rows : FnPk K "rows" "Fold.rows" s_Fold_rows [] [] (He.ma K (He.ga K "Fold") "rows") fd_Fold_rows := F'_Fold_rows
  obtain ⟨fd_Fold_size, F'_Fold_size⟩ := c.t.d.def_ 40 (d := d_Fold_size) rfl
  have F_Fold_size : FnPk K "size" "Fold.size" s_Fold_size [] [] (He.ma K (He.ga K "Fold") "size") fd_Fold_size := F'_Fold_size
  obtain ⟨fd_Fold_then, F'_Fold_then⟩ := c.t.d.def_ 41 (d := d_Fold_then) rfl
  have F_Fold_then : FnPk K "then" "Fold.then" s_Fold_then [] [] (He.ma K (He.ga K "Fold") "then") fd_Fold_then := F'_Fold_then
  obtain ⟨fd_law, F'_law⟩ := c.t.d.def_ 42 (d := d_law) rfl
  have F_law : FnPk K "law" "law" s_law [] [] (He.ga K "law") fd_law := F'_law
  have e := hfa.symm.trans (He.glo_ok X G (c.t.d.fact 111 (f := .glo "law") rfl))
  cases e
  have b := FunD.bindsA (ps := ["_law_script"]) F_law fun _ _ _ _ _ _ us hl => match us, hl with | [_], _ => rfl
  refine ⟨fd_law, fun s v => b s [v] rfl, fun base hTB => ?_⟩
  have B : Bl mg := bl_of X G fun f hf => c.t.d.facts (List.mem_append_left _ (List.mem_append_left _ (show f ∈ Hz.blFa from hf)))
  have o__law_box := ok__law_box (P := P) (w := w) (mg := mg) (base := base) (ca := He.ga K) (T := Tof K tf) F__law_box B
  have h__law_box : Kn P w K mg base (GY K (He.ga K) (Tof K tf)) 1 "_law_box" 1 m__law_box [] [] := kn_of F__law_box (He.glo_ok X G (c.t.d.fact 20 (f := .glo "_law_box") rfl)) (F__law_box.bindsN (ps := ["_law_script"]) fun _ _ _ _ _ _ us hl => match us, hl with | [_], _ => rfl) o__law_box
  have o__law_take := ok__law_take (P := P) (w := w) (mg := mg) (base := base) (ca := He.ga K) (T := Tof K tf) F__law_take B
  have h__law_take : Kn P w K mg base (GY K (He.ga K) (Tof K tf)) 1 "_law_take" 2 m__law_take [] [] := kn_of F__law_take (He.glo_ok X G (c.t.d.fact 21 (f := .glo "_law_take") rfl)) (F__law_take.bindsN (ps := ["_law_box_z", "_law_sides"]) fun _ _ _ _ _ _ us hl => match us, hl with | [_, _], _ => rfl) o__law_take
  have o__law_of := ok__law_of (P := P) (w := w) (mg := mg) (base := base) (ca := He.ga K) (T := Tof K tf) F__law_of B h__law_take
  have h__law_of : Kn P w K mg base (GY K (He.ga K) (Tof K tf)) 2 "_law_of" 2 m__law_of [] [] := kn_of F__law_of (He.glo_ok X G (c.t.d.fact 22 (f := .glo "_law_of") rfl)) (F__law_of.bindsN (ps := ["_law_box_z", "_law_some"]) fun _ _ _ _ _ _ us hl => match us, hl with | [_, _], _ => rfl) o__law_of
  have o__law_wide := ok__law_wide (P := P) (w := w) (mg := mg) (base := base) (ca := He.ga K) (T := Tof K tf) F__law_wide h__law_of
  have h__law_wide : Kn P w K mg base (GY K (He.ga K) (Tof K tf)) 3 "_law_wide" 1 m__law_wide [] [] := kn_of F__law_wide (He.glo_ok X G (c.t.d.fact 23 (f := .glo "_law_wide") rfl)) (F__law_wide.bindsN (ps := ["_law_box_z"]) fun _ _ _ _ _ _ us hl => match us, hl with | [_], _ => rfl) o__law_wide
  have o__law_shuffled := ok__law_shuffled (P := P) (w := w) (mg := mg) (base := base) (ca := He.ga K) (T := Tof K tf) F__law_shuffled B h__law_take
  have h__law_shuffled : Kn P w K mg base (GY K (He.ga K) (Tof K tf)) 2 "_law_shuffled" 2 m__law_shuffled [] [] := kn_of F__law_shuffled (He.glo_ok X G (c.t.d.fact 24 (f := .glo "_law_shuffled") rfl)) (F__law_shuffled.bindsN (ps := ["_law_box_z", "_law_some"]) fun _ _ _ _ _ _ us hl => match us, hl with | [_, _], _ => rfl) o__law_shuffled
  have o__law_numbers := ok__law_numbers (P := P) (w := w) (mg := mg) (base := base) (ca := He.ga K) (T := Tof K tf) F__law_numbers B h__law_take
  have h__law_numbers : Kn P w K mg base (GY K (He.ga K) (Tof K tf)) 2 "_law_numbers" 3 m__law_numbers [] [] := kn_of F__law_numbers (He.glo_ok X G (c.t.d.fact 25 (f := .glo "_law_numbers") rfl)) (F__law_numbers.bindsN (ps := ["_law_box_z", "_law_count", "_law_many"]) fun _ _ _ _ _ _ us hl => match us, hl with | [_, _, _], _ => rfl) o__law_numbers
  have o__law_lines := ok__law_lines (P := P) (w := w) (mg := mg) (base := base) (ca := He.ga K) (T := Tof K tf) F__law_lines B h__law_numbers h__law_shuffled h__law_take
  have h__law_lines : Kn P w K mg base (GY K (He.ga K) (Tof K tf)) 3 "_law_lines" 3 m__law_lines [] [] := kn_of F__law_lines (He.glo_ok X G (c.t.d.fact 26 (f := .glo "_law_lines") rfl)) (F__law_lines.bindsN (ps := ["_law_box_z", "_law_deep", "_law_many"]) fun _ _ _ _ _ _ us hl => match us, hl with | [_, _, _], _ => rfl) o__law_lines
  have c_SMALL : ∃ u, mg "SMALL" = some (.str "abcdefghijklmnopqrstuvwxyz" u) := He.str_ok X G (c.t.d.fact 27 (f := .str "SMALL" "abcdefghijklmnopqrstuvwxyz") rfl)
  have o_is_name := ok_is_name (P := P) (w := w) (mg := mg) (base := base) (ca := He.ga K) (T := Tof K tf) F_is_name B c_SMALL
  have h_is_name : Kn P w K mg base (GY K (He.ga K) (Tof K tf)) 1 "is_name" 1 m_is_name [] [] := kn_of F_is_name (He.glo_ok X G (c.t.d.fact 28 (f := .glo "is_name") rfl)) (F_is_name.bindsN (ps := ["name"]) fun _ _ _ _ _ _ us hl => match us, hl with | [_], _ => rfl) o_is_name
  have x_BadSides : KnX K mg (GY K (He.ga K) (Tof K tf)) "BadSides" := knX_of X G (c.t.d.fact 29 (f := .glo "BadSides") rfl) (c.t.d.fact 30 (f := .exc "BadSides") rfl)
  have c_MOST_DIGITS : ∃ u, mg "MOST_DIGITS" = some (.int 12 u) := He.int_ok X G (c.t.d.fact 31 (f := .int "MOST_DIGITS" 12) rfl)
  have o_need_sides := ok_need_sides (P := P) (w := w) (mg := mg) (base := base) (ca := He.ga K) (T := Tof K tf) F_need_sides B h_is_name x_BadSides c_MOST_DIGITS
  have h_need_sides : Kn P w K mg base (GY K (He.ga K) (Tof K tf)) 2 "need_sides" 1 m_need_sides [] [] := kn_of F_need_sides (He.glo_ok X G (c.t.d.fact 32 (f := .glo "need_sides") rfl)) (F_need_sides.bindsN (ps := ["sides"]) fun _ _ _ _ _ _ us hl => match us, hl with | [_], _ => rfl) o_need_sides
  have o_words_of := ok_words_of (P := P) (w := w) (mg := mg) (base := base) (ca := He.ga K) (T := Tof K tf) F_words_of B
  have h_words_of : Kn P w K mg base (GY K (He.ga K) (Tof K tf)) 1 "words_of" 1 m_words_of [] [] := kn_of F_words_of (He.glo_ok X G (c.t.d.fact 33 (f := .glo "words_of") rfl)) (F_words_of.bindsN (ps := ["sides"]) fun _ _ _ _ _ _ us hl => match us, hl with | [_], _ => rfl) o_words_of
  have x_BadRows : KnX K mg (GY K (He.ga K) (Tof K tf)) "BadRows" := knX_of X G (c.t.d.fact 34 (f := .glo "BadRows") rfl) (c.t.d.fact 35 (f := .exc "BadRows") rfl)
  have o_spread_text := ok_spread_text (P := P) (w := w) (mg := mg) (base := base) (ca := He.ga K) (T := Tof K tf) F_spread_text B h_need_sides h_words_of x_BadRows
  have h_spread_text_2_box_lane : KnK P w K mg base (GY K (He.ga K) (Tof K tf)) 3 "spread_text" 2 ["box", "lane"] m_spread_text [] [] := knK0_of F_spread_text (He.glo_ok X G (c.t.d.fact 36 (f := .glo "spread_text") rfl)) (kbnAll (ps := ["rows", "sides", "box", "lane"]) F_spread_text 2 ["box", "lane"] fun _ _ _ _ _ _ us ws h1 h2 => match us, ws, h1, h2 with | [_, _], [_, _], _, _ => rfl) (fun w => RepL.nil_) o_spread_text
  have o_parts_of := ok_parts_of (P := P) (w := w) (mg := mg) (base := base) (ca := He.ga K) (T := Tof K tf) F_parts_of B
  have h_parts_of : Kn P w K mg base (GY K (He.ga K) (Tof K tf)) 1 "parts_of" 1 m_parts_of [] [] := kn_of F_parts_of (He.glo_ok X G (c.t.d.fact 37 (f := .glo "parts_of") rfl)) (F_parts_of.bindsN (ps := ["text"]) fun _ _ _ _ _ _ us hl => match us, hl with | [_], _ => rfl) o_parts_of
  have C_Reader : Cls K ((GY K (He.ga K) (Tof K tf)).ca "Reader") := He.cls_ok (c.t.d.fact 38 (f := .cls "Reader") rfl)
  have n_Reader_found : NoAttr K ((GY K (He.ga K) (Tof K tf)).ca "Reader") "found" := He.noat_ok (c.t.d.fact 39 (f := .noat "Reader" "found") rfl)
  have n_Reader_step : NoAttr K ((GY K (He.ga K) (Tof K tf)).ca "Reader") "step" := He.noat_ok (c.t.d.fact 40 (f := .noat "Reader" "step") rfl)
  have n_Reader_end : NoAttr K ((GY K (He.ga K) (Tof K tf)).ca "Reader") "end" := He.noat_ok (c.t.d.fact 41 (f := .noat "Reader" "end") rfl)
  have o_ReaderU_initU := ok_ReaderU_initU (P := P) (w := w) (mg := mg) (base := base) (ca := He.ga K) (T := Tof K tf) F_ReaderU_initU B h_parts_of C_Reader n_Reader_found n_Reader_step n_Reader_end
  have k_Reader : KnC P w K mg base (GY K (He.ga K) (Tof K tf)) 2 "Reader" 2 m_ReaderU_initU [] [] := knC_of F_ReaderU_initU (He.mkr_ok (c.t.d.fact 42 (f := .mkr "Reader") rfl)) (He.glo_ok X G (c.t.d.fact 43 (f := .glo "Reader") rfl)) (F_ReaderU_initU.bindsN (ps := ["self", "text"]) fun _ _ _ _ _ _ us hl => match us, hl with | [_, _], _ => rfl) o_ReaderU_initU
  have o_Reader_ahead := ok_Reader_ahead (P := P) (w := w) (mg := mg) (base := base) (ca := He.ga K) (T := Tof K tf) F_Reader_ahead B C_Reader n_Reader_step n_Reader_found
  have h_Reader_ahead : KnM P w K mg base (GY K (He.ga K) (Tof K tf)) 1 "Reader" "ahead" 1 m_Reader_ahead [] [] := knM_of F_Reader_ahead (He.cls_ok (c.t.d.fact 38 (f := .cls "Reader") rfl)) (He.meth_ok (c.t.d.fact 44 (f := .meth "Reader" "ahead") rfl)) (F_Reader_ahead.bindsN (ps := ["self"]) fun _ _ _ _ _ _ us hl => match us, hl with | [_], _ => rfl) o_Reader_ahead
  have o_Reader_wrong := ok_Reader_wrong (P := P) (w := w) (mg := mg) (base := base) (ca := He.ga K) (T := Tof K tf) F_Reader_wrong B C_Reader n_Reader_step n_Reader_found n_Reader_end
  have h_Reader_wrong : KnM P w K mg base (GY K (He.ga K) (Tof K tf)) 1 "Reader" "wrong" 1 m_Reader_wrong [] [] := knM_of F_Reader_wrong (He.cls_ok (c.t.d.fact 38 (f := .cls "Reader") rfl)) (He.meth_ok (c.t.d.fact 45 (f := .meth "Reader" "wrong") rfl)) (F_Reader_wrong.bindsN (ps := ["self"]) fun _ _ _ _ _ _ us hl => match us, hl with | [_], _ => rfl) o_Reader_wrong
  have g_FoldError : mg "FoldError" = some (.ref ((GY K (He.ga K) (Tof K tf)).ca "FoldError")) := He.glo_ok X G (c.t.d.fact 46 (f := .glo "FoldError") rfl)
  have g_BadText : mg "BadText" = some (.ref ((GY K (He.ga K) (Tof K tf)).ca "BadText")) := He.glo_ok X G (c.t.d.fact 47 (f := .glo "BadText") rfl)
  have xm_BadText := (xmB_ok (exAt (es := exs) c.more 1 rfl))
  have xf_BadText : KnF P w K mg base (GY K (He.ga K) (Tof K tf)) "BadText" := ⟨oexB_ok (exAt (es := exs) c.more 2 rfl), g_BadText, xm_BadText.1, _, _, _, xm_BadText.2.1, xm_BadText.2.2, ok_BadTextU_initU (P := P) (w := w) (mg := mg) (base := base) (ca := He.ga K) (T := Tof K tf) F_BadTextU_initU g_FoldError (basB_ok (exAt (es := exs) c.more 0 rfl)), (F_BadTextU_initU.bindsN (ps := ["self", "at"]) fun _ _ _ _ _ _ us hl => match us, hl with | [_, _], _ => rfl)⟩
  have o_Reader_take := ok_Reader_take (P := P) (w := w) (mg := mg) (base := base) (ca := He.ga K) (T := Tof K tf) F_Reader_take h_Reader_ahead h_Reader_wrong xf_BadText C_Reader n_Reader_step
  have h_Reader_take : KnM P w K mg base (GY K (He.ga K) (Tof K tf)) 3 "Reader" "take" 2 m_Reader_take [] [] := knM_of F_Reader_take (He.cls_ok (c.t.d.fact 38 (f := .cls "Reader") rfl)) (He.meth_ok (c.t.d.fact 48 (f := .meth "Reader" "take") rfl)) (F_Reader_take.bindsN (ps := ["self", "some"]) fun _ _ _ _ _ _ us hl => match us, hl with | [_, _], _ => rfl) o_Reader_take
  have o_read_sum := ok_read_sum (P := P) (w := w) (mg := mg) (base := base) (ca := He.ga K) (T := Tof K tf) F_read_sum B h_Reader_take h_Reader_ahead
  have h_read_sum : Kn P w K mg base (GY K (He.ga K) (Tof K tf)) 4 "read_sum" 2 m_read_sum [] [] := kn_of F_read_sum (He.glo_ok X G (c.t.d.fact 49 (f := .glo "read_sum") rfl)) (F_read_sum.bindsN (ps := ["reader", "worths"]) fun _ _ _ _ _ _ us hl => match us, hl with | [_, _], _ => rfl) o_read_sum
  have o_read_spread := ok_read_spread (P := P) (w := w) (mg := mg) (base := base) (ca := He.ga K) (T := Tof K tf) F_read_spread B h_need_sides h_words_of k_Reader h_Reader_ahead h_Reader_take h_read_sum
  have h_read_spread_2_box_lane : KnK P w K mg base (GY K (He.ga K) (Tof K tf)) 5 "read_spread" 2 ["box", "lane"] m_read_spread [] [] := knK0_of F_read_spread (He.glo_ok X G (c.t.d.fact 50 (f := .glo "read_spread") rfl)) (kbnAll (ps := ["text", "sides", "box", "lane"]) F_read_spread 2 ["box", "lane"] fun _ _ _ _ _ _ us ws h1 h2 => match us, ws, h1, h2 with | [_, _], [_, _], _, _ => rfl) (fun w => RepL.nil_) o_read_spread
  have x_BadSize : KnX K mg (GY K (He.ga K) (Tof K tf)) "BadSize" := knX_of X G (c.t.d.fact 51 (f := .glo "BadSize") rfl) (c.t.d.fact 52 (f := .exc "BadSize") rfl)
  have C_Body : Cls K ((GY K (He.ga K) (Tof K tf)).ca "Body") := He.cls_ok (c.t.d.fact 53 (f := .cls "Body") rfl)
  have n_Body_wide : NoAttr K ((GY K (He.ga K) (Tof K tf)).ca "Body") "wide" := He.noat_ok (c.t.d.fact 54 (f := .noat "Body" "wide") rfl)
  have n_Body_tables : NoAttr K ((GY K (He.ga K) (Tof K tf)).ca "Body") "tables" := He.noat_ok (c.t.d.fact 55 (f := .noat "Body" "tables") rfl)
  have n_Body_store : NoAttr K ((GY K (He.ga K) (Tof K tf)).ca "Body") "store" := He.noat_ok (c.t.d.fact 56 (f := .noat "Body" "store") rfl)
  have n_Body_dues : NoAttr K ((GY K (He.ga K) (Tof K tf)).ca "Body") "dues" := He.noat_ok (c.t.d.fact 57 (f := .noat "Body" "dues") rfl)
  have o_BodyU_initU := ok_BodyU_initU (P := P) (w := w) (mg := mg) (base := base) (ca := He.ga K) (T := Tof K tf) F_BodyU_initU x_BadSize C_Body n_Body_wide n_Body_tables n_Body_store n_Body_dues
  have k_Body_2_banks : KnCK P w K mg base (GY K (He.ga K) (Tof K tf)) 1 "Body" 2 ["banks"] m_BodyU_initU [] [] := knCK_of F_BodyU_initU (He.mkr_ok (c.t.d.fact 58 (f := .mkr "Body") rfl)) (He.glo_ok X G (c.t.d.fact 59 (f := .glo "Body") rfl)) (kbnAll (ps := ["self", "box", "lane", "banks"]) F_BodyU_initU 3 ["banks"] fun _ _ _ _ _ _ us ws h1 h2 => match us, ws, h1, h2 with | [_, _, _], [_], _, _ => rfl) (fun w => RepL.nil_) o_BodyU_initU
  have o__law_cells := ok__law_cells (P := P) (w := w) (mg := mg) (base := base) (ca := He.ga K) (T := Tof K tf) F__law_cells B h__law_of h__law_take
  have h__law_cells : Kn P w K mg base (GY K (He.ga K) (Tof K tf)) 3 "_law_cells" 2 m__law_cells [] [] := kn_of F__law_cells (He.glo_ok X G (c.t.d.fact 60 (f := .glo "_law_cells") rfl)) (F__law_cells.bindsN (ps := ["_law_box_z", "_law_many"]) fun _ _ _ _ _ _ us hl => match us, hl with | [_, _], _ => rfl) o__law_cells
  have x_BadName : KnX K mg (GY K (He.ga K) (Tof K tf)) "BadName" := knX_of X G (c.t.d.fact 61 (f := .glo "BadName") rfl) (c.t.d.fact 62 (f := .exc "BadName") rfl)
  have x_Taken : KnX K mg (GY K (He.ga K) (Tof K tf)) "Taken" := knX_of X G (c.t.d.fact 63 (f := .glo "Taken") rfl) (c.t.d.fact 64 (f := .exc "Taken") rfl)
  have c_MOST_TABLES : ∃ u, mg "MOST_TABLES" = some (.int 6 u) := He.int_ok X G (c.t.d.fact 65 (f := .int "MOST_TABLES" 6) rfl)
  have x_Full : KnX K mg (GY K (He.ga K) (Tof K tf)) "Full" := knX_of X G (c.t.d.fact 66 (f := .glo "Full") rfl) (c.t.d.fact 67 (f := .exc "Full") rfl)
  have o_Body_need_new := ok_Body_need_new (P := P) (w := w) (mg := mg) (base := base) (ca := He.ga K) (T := Tof K tf) F_Body_need_new B h_is_name x_BadName C_Body n_Body_tables x_Taken c_MOST_TABLES x_Full
  have h_Body_need_new : KnM P w K mg base (GY K (He.ga K) (Tof K tf)) 2 "Body" "need_new" 2 m_Body_need_new [] [] := knM_of F_Body_need_new (He.cls_ok (c.t.d.fact 53 (f := .cls "Body") rfl)) (He.meth_ok (c.t.d.fact 68 (f := .meth "Body" "need_new") rfl)) (F_Body_need_new.bindsN (ps := ["self", "name"]) fun _ _ _ _ _ _ us hl => match us, hl with | [_, _], _ => rfl) o_Body_need_new
  have x_BadCells : KnX K mg (GY K (He.ga K) (Tof K tf)) "BadCells" := knX_of X G (c.t.d.fact 69 (f := .glo "BadCells") rfl) (c.t.d.fact 70 (f := .exc "BadCells") rfl)
  have o_digits_of := ok_digits_of (P := P) (w := w) (mg := mg) (base := base) (ca := He.ga K) (T := Tof K tf) F_digits_of x_BadCells
  have h_digits_of : Kn P w K mg base (GY K (He.ga K) (Tof K tf)) 1 "digits_of" 2 m_digits_of [] [] := kn_of F_digits_of (He.glo_ok X G (c.t.d.fact 71 (f := .glo "digits_of") rfl)) (F_digits_of.bindsN (ps := ["count", "most"]) fun _ _ _ _ _ _ us hl => match us, hl with | [_, _], _ => rfl) o_digits_of
  have c_MOST : ∃ u, mg "MOST" = some (.int 1000000000 u) := He.int_ok X G (c.t.d.fact 72 (f := .int "MOST" 1000000000) rfl)
  have x_BadFold : KnX K mg (GY K (He.ga K) (Tof K tf)) "BadFold" := knX_of X G (c.t.d.fact 73 (f := .glo "BadFold") rfl) (c.t.d.fact 74 (f := .exc "BadFold") rfl)
  have C_Fold : Cls K ((GY K (He.ga K) (Tof K tf)).ca "Fold") := He.cls_ok (c.t.d.fact 75 (f := .cls "Fold") rfl)
  have n_Fold_lines : NoAttr K ((GY K (He.ga K) (Tof K tf)).ca "Fold") "lines" := He.noat_ok (c.t.d.fact 76 (f := .noat "Fold" "lines") rfl)
  have n_Fold_wide : NoAttr K ((GY K (He.ga K) (Tof K tf)).ca "Fold") "wide" := He.noat_ok (c.t.d.fact 77 (f := .noat "Fold" "wide") rfl)
  have o_FoldU_initU := ok_FoldU_initU (P := P) (w := w) (mg := mg) (base := base) (ca := He.ga K) (T := Tof K tf) F_FoldU_initU B c_MOST_DIGITS x_BadFold C_Fold n_Fold_lines n_Fold_wide
  have k_Fold : KnC P w K mg base (GY K (He.ga K) (Tof K tf)) 1 "Fold" 3 m_FoldU_initU [] [] := knC_of F_FoldU_initU (He.mkr_ok (c.t.d.fact 78 (f := .mkr "Fold") rfl)) (He.glo_ok X G (c.t.d.fact 79 (f := .glo "Fold") rfl)) (F_FoldU_initU.bindsN (ps := ["self", "rows", "size"]) fun _ _ _ _ _ _ us hl => match us, hl with | [_, _, _], _ => rfl) o_FoldU_initU
  have o_top_of := ok_top_of (P := P) (w := w) (mg := mg) (base := base) (ca := He.ga K) (T := Tof K tf) F_top_of
  have h_top_of : Kn P w K mg base (GY K (He.ga K) (Tof K tf)) 1 "top_of" 1 m_top_of [] [] := kn_of F_top_of (He.glo_ok X G (c.t.d.fact 80 (f := .glo "top_of") rfl)) (F_top_of.bindsN (ps := ["one"]) fun _ _ _ _ _ _ us hl => match us, hl with | [_], _ => rfl) o_top_of
  have o_reduced := ok_reduced (P := P) (w := w) (mg := mg) (base := base) (ca := He.ga K) (T := Tof K tf) F_reduced h_top_of
  have h_reduced : Kn P w K mg base (GY K (He.ga K) (Tof K tf)) 2 "reduced" 2 m_reduced [] [] := kn_of F_reduced (He.glo_ok X G (c.t.d.fact 81 (f := .glo "reduced") rfl)) (F_reduced.bindsN (ps := ["one", "found"]) fun _ _ _ _ _ _ us hl => match us, hl with | [_, _], _ => rfl) o_reduced
  have o_basis_of := ok_basis_of (P := P) (w := w) (mg := mg) (base := base) (ca := He.ga K) (T := Tof K tf) F_basis_of B h_reduced h_top_of
  have h_basis_of : Kn P w K mg base (GY K (He.ga K) (Tof K tf)) 3 "basis_of" 1 m_basis_of [] [] := kn_of F_basis_of (He.glo_ok X G (c.t.d.fact 82 (f := .glo "basis_of") rfl)) (F_basis_of.bindsN (ps := ["numbers"]) fun _ _ _ _ _ _ us hl => match us, hl with | [_], _ => rfl) o_basis_of
  have o_Fold_onto := ok_Fold_onto (P := P) (w := w) (mg := mg) (base := base) (ca := He.ga K) (T := Tof K tf) F_Fold_onto B C_Fold n_Fold_lines h_basis_of n_Fold_wide
  have h_Fold_onto : KnM P w K mg base (GY K (He.ga K) (Tof K tf)) 4 "Fold" "onto" 1 m_Fold_onto [] [] := knM_of F_Fold_onto (He.cls_ok (c.t.d.fact 75 (f := .cls "Fold") rfl)) (He.meth_ok (c.t.d.fact 83 (f := .meth "Fold" "onto") rfl)) (F_Fold_onto.bindsN (ps := ["self"]) fun _ _ _ _ _ _ us hl => match us, hl with | [_], _ => rfl) o_Fold_onto
  have o_Body_need_spread := ok_Body_need_spread (P := P) (w := w) (mg := mg) (base := base) (ca := He.ga K) (T := Tof K tf) F_Body_need_spread B C_Body n_Body_wide x_BadRows k_Fold h_Fold_onto
  have h_Body_need_spread : KnM P w K mg base (GY K (He.ga K) (Tof K tf)) 5 "Body" "need_spread" 3 m_Body_need_spread [] [] := knM_of F_Body_need_spread (He.cls_ok (c.t.d.fact 53 (f := .cls "Body") rfl)) (He.meth_ok (c.t.d.fact 84 (f := .meth "Body" "need_spread") rfl)) (F_Body_need_spread.bindsN (ps := ["self", "rows", "many"]) fun _ _ _ _ _ _ us hl => match us, hl with | [_, _, _], _ => rfl) o_Body_need_spread
  have C_Table : Cls K ((GY K (He.ga K) (Tof K tf)).ca "Table") := He.cls_ok (c.t.d.fact 85 (f := .cls "Table") rfl)
  have n_Table_spread : NoAttr K ((GY K (He.ga K) (Tof K tf)).ca "Table") "spread" := He.noat_ok (c.t.d.fact 86 (f := .noat "Table" "spread") rfl)
  have n_Table_grip : NoAttr K ((GY K (He.ga K) (Tof K tf)).ca "Table") "grip" := He.noat_ok (c.t.d.fact 87 (f := .noat "Table" "grip") rfl)
  have n_Table_move : NoAttr K ((GY K (He.ga K) (Tof K tf)).ca "Table") "move" := He.noat_ok (c.t.d.fact 88 (f := .noat "Table" "move") rfl)
  have o_TableU_initU := ok_TableU_initU (P := P) (w := w) (mg := mg) (base := base) (ca := He.ga K) (T := Tof K tf) F_TableU_initU C_Table n_Table_spread n_Table_grip n_Table_move
  have k_Table_d : KnC P w K mg base (GY K (He.ga K) (Tof K tf)) 1 "Table" 4 m_TableU_initU [.non] [.non] := knC0_of F_TableU_initU (He.mkr_ok (c.t.d.fact 89 (f := .mkr "Table") rfl)) (He.glo_ok X G (c.t.d.fact 90 (f := .glo "Table") rfl)) (F_TableU_initU.binds0 (ps := ["self", "spread", "grip", "move"]) 3 (fun z => nomatch z) rfl fun _ _ _ _ _ _ us ks h1 h2 => match us, ks, h1, h2 with | [_, _, _], [_], _, _ => ⟨_, _, _, _, _, _, rfl, rfl, rfl⟩) (fun w => RepL.cons_ (rep_non' (g := GY K (He.ga K) (Tof K tf))) (RepL.nil_)) o_TableU_initU
  have o_Fold_many := ok_Fold_many (P := P) (w := w) (mg := mg) (base := base) (ca := He.ga K) (T := Tof K tf) F_Fold_many B C_Fold n_Fold_lines
  have h_Fold_many : KnM P w K mg base (GY K (He.ga K) (Tof K tf)) 1 "Fold" "many" 1 m_Fold_many [] [] := knM_of F_Fold_many (He.cls_ok (c.t.d.fact 75 (f := .cls "Fold") rfl)) (He.meth_ok (c.t.d.fact 91 (f := .meth "Fold" "many") rfl)) (F_Fold_many.bindsN (ps := ["self"]) fun _ _ _ _ _ _ us hl => match us, hl with | [_], _ => rfl) o_Fold_many
  have x_BadNumber : KnX K mg (GY K (He.ga K) (Tof K tf)) "BadNumber" := knX_of X G (c.t.d.fact 92 (f := .glo "BadNumber") rfl) (c.t.d.fact 93 (f := .exc "BadNumber") rfl)
  have o_blended := ok_blended (P := P) (w := w) (mg := mg) (base := base) (ca := He.ga K) (T := Tof K tf) F_blended
  have h_blended : Kn P w K mg base (GY K (He.ga K) (Tof K tf)) 1 "blended" 1 m_blended [] [] := kn_of F_blended (He.glo_ok X G (c.t.d.fact 94 (f := .glo "blended") rfl)) (F_blended.bindsN (ps := ["numbers"]) fun _ _ _ _ _ _ us hl => match us, hl with | [_], _ => rfl) o_blended
  have o_picked := ok_picked (P := P) (w := w) (mg := mg) (base := base) (ca := He.ga K) (T := Tof K tf) F_picked B h_blended
  have h_picked : Kn P w K mg base (GY K (He.ga K) (Tof K tf)) 2 "picked" 2 m_picked [] [] := kn_of F_picked (He.glo_ok X G (c.t.d.fact 95 (f := .glo "picked") rfl)) (F_picked.bindsN (ps := ["rows", "number"]) fun _ _ _ _ _ _ us hl => match us, hl with | [_, _], _ => rfl) o_picked
  have o_Fold_to := ok_Fold_to (P := P) (w := w) (mg := mg) (base := base) (ca := He.ga K) (T := Tof K tf) F_Fold_to B C_Fold n_Fold_lines x_BadNumber h_picked
  have h_Fold_to : KnM P w K mg base (GY K (He.ga K) (Tof K tf)) 3 "Fold" "to" 2 m_Fold_to [] [] := knM_of F_Fold_to (He.cls_ok (c.t.d.fact 75 (f := .cls "Fold") rfl)) (He.meth_ok (c.t.d.fact 96 (f := .meth "Fold" "to") rfl)) (F_Fold_to.bindsN (ps := ["self", "number"]) fun _ _ _ _ _ _ us hl => match us, hl with | [_, _], _ => rfl) o_Fold_to
  have o_laid := ok_laid (P := P) (w := w) (mg := mg) (base := base) (ca := He.ga K) (T := Tof K tf) F_laid B k_Table_d h_Fold_many h_Fold_to
  have h_laid : Kn P w K mg base (GY K (He.ga K) (Tof K tf)) 4 "laid" 2 m_laid [] [] := kn_of F_laid (He.glo_ok X G (c.t.d.fact 97 (f := .glo "laid") rfl)) (F_laid.bindsN (ps := ["spread", "cells"]) fun _ _ _ _ _ _ us hl => match us, hl with | [_, _], _ => rfl) o_laid
  have o_Body_lay := ok_Body_lay (P := P) (w := w) (mg := mg) (base := base) (ca := He.ga K) (T := Tof K tf) F_Body_lay B h_Body_need_new C_Body n_Body_wide h_digits_of c_MOST x_BadCells n_Body_tables h_Body_need_spread h_laid
  have h_Body_lay : KnM P w K mg base (GY K (He.ga K) (Tof K tf)) 6 "Body" "lay" 4 m_Body_lay [] [] := knM_of F_Body_lay (He.cls_ok (c.t.d.fact 53 (f := .cls "Body") rfl)) (He.meth_ok (c.t.d.fact 98 (f := .meth "Body" "lay") rfl)) (F_Body_lay.bindsN (ps := ["self", "name", "rows", "cells"]) fun _ _ _ _ _ _ us hl => match us, hl with | [_, _, _, _], _ => rfl) o_Body_lay
  have g_NoTable : mg "NoTable" = some (.ref ((GY K (He.ga K) (Tof K tf)).ca "NoTable")) := He.glo_ok X G (c.t.d.fact 99 (f := .glo "NoTable") rfl)
  have xm_NoTable := (xmB_ok (exAt (es := exs) c.more 3 rfl))
  have xf_NoTable : KnF P w K mg base (GY K (He.ga K) (Tof K tf)) "NoTable" := ⟨oexB_ok (exAt (es := exs) c.more 4 rfl), g_NoTable, xm_NoTable.1, _, _, _, xm_NoTable.2.1, xm_NoTable.2.2, ok_NoTableU_initU (P := P) (w := w) (mg := mg) (base := base) (ca := He.ga K) (T := Tof K tf) F_NoTableU_initU g_FoldError (basB_ok (exAt (es := exs) c.more 0 rfl)), (F_NoTableU_initU.bindsN (ps := ["self", "name"]) fun _ _ _ _ _ _ us hl => match us, hl with | [_, _], _ => rfl)⟩
  have o_Body_need := ok_Body_need (P := P) (w := w) (mg := mg) (base := base) (ca := He.ga K) (T := Tof K tf) F_Body_need C_Body n_Body_tables xf_NoTable
  have h_Body_need : KnM P w K mg base (GY K (He.ga K) (Tof K tf)) 3 "Body" "need" 2 m_Body_need [] [] := knM_of F_Body_need (He.cls_ok (c.t.d.fact 53 (f := .cls "Body") rfl)) (He.meth_ok (c.t.d.fact 100 (f := .meth "Body" "need") rfl)) (F_Body_need.bindsN (ps := ["self", "name"]) fun _ _ _ _ _ _ us hl => match us, hl with | [_, _], _ => rfl) o_Body_need
  have x_NoBerth : KnX K mg (GY K (He.ga K) (Tof K tf)) "NoBerth" := knX_of X G (c.t.d.fact 101 (f := .glo "NoBerth") rfl) (c.t.d.fact 102 (f := .exc "NoBerth") rfl)
  have o_Table_berth_now := ok_Table_berth_now (P := P) (w := w) (mg := mg) (base := base) (ca := He.ga K) (T := Tof K tf) F_Table_berth_now C_Table n_Table_move n_Table_grip
  have h_Table_berth_now : KnM P w K mg base (GY K (He.ga K) (Tof K tf)) 1 "Table" "berth_now" 2 m_Table_berth_now_k68 [] [] := knM_of F_Table_berth_now (He.cls_ok (c.t.d.fact 85 (f := .cls "Table") rfl)) (He.meth_ok (c.t.d.fact 103 (f := .meth "Table" "berth_now") rfl)) (F_Table_berth_now.bindsN (ps := ["self", "berth"]) fun _ _ _ _ _ _ us hl => match us, hl with | [_, _], _ => rfl) o_Table_berth_now
  have o_Body_held := ok_Body_held (P := P) (w := w) (mg := mg) (base := base) (ca := He.ga K) (T := Tof K tf) F_Body_held B h_Body_need C_Table n_Table_grip x_NoBerth h_Table_berth_now
  have h_Body_held : KnM P w K mg base (GY K (He.ga K) (Tof K tf)) 4 "Body" "held" 3 m_Body_held_k68 [] [] := knM_of F_Body_held (He.cls_ok (c.t.d.fact 53 (f := .cls "Body") rfl)) (He.meth_ok (c.t.d.fact 104 (f := .meth "Body" "held") rfl)) (F_Body_held.bindsN (ps := ["self", "name", "berth"]) fun _ _ _ _ _ _ us hl => match us, hl with | [_, _, _], _ => rfl) o_Body_held
  have o__law_images := ok__law_images (P := P) (w := w) (mg := mg) (base := base) (ca := He.ga K) (T := Tof K tf) F__law_images
  have h__law_images : Kn P w K mg base (GY K (He.ga K) (Tof K tf)) 1 "_law_images" 1 m__law_images [] [] := kn_of F__law_images (He.glo_ok X G (c.t.d.fact 105 (f := .glo "_law_images") rfl)) (F__law_images.bindsN (ps := ["_law_lines_here"]) fun _ _ _ _ _ _ us hl => match us, hl with | [_], _ => rfl) o__law_images
  have hp_spread_text_2_lane_box : KnKP P w K mg base (GY K (He.ga K) (Tof K tf)) 3 "spread_text" 2 ["lane", "box"] [1, 0] m_spread_text := knKP_of F_spread_text (He.glo_ok X G (c.t.d.fact 36 (f := .glo "spread_text") rfl)) (kbnP (ps := ["rows", "sides", "box", "lane"]) F_spread_text 2 ["lane", "box"] [1, 0] fun _ _ _ _ _ _ us ws h1 h2 => match us, ws, h1, h2 with | [_, _], [_, _], _, _ => rfl) o_spread_text
  have o_Fold_rows := ok_Fold_rows (P := P) (w := w) (mg := mg) (base := base) (ca := He.ga K) (T := Tof K tf) F_Fold_rows C_Fold n_Fold_lines
  have h_Fold_rows : KnM P w K mg base (GY K (He.ga K) (Tof K tf)) 1 "Fold" "rows" 1 m_Fold_rows [] [] := knM_of F_Fold_rows (He.cls_ok (c.t.d.fact 75 (f := .cls "Fold") rfl)) (He.meth_ok (c.t.d.fact 106 (f := .meth "Fold" "rows") rfl)) (F_Fold_rows.bindsN (ps := ["self"]) fun _ _ _ _ _ _ us hl => match us, hl with | [_], _ => rfl) o_Fold_rows
  have x_Unfit : KnX K mg (GY K (He.ga K) (Tof K tf)) "Unfit" := knX_of X G (c.t.d.fact 107 (f := .glo "Unfit") rfl) (c.t.d.fact 108 (f := .exc "Unfit") rfl)
  have o_Fold_size := ok_Fold_size (P := P) (w := w) (mg := mg) (base := base) (ca := He.ga K) (T := Tof K tf) F_Fold_size C_Fold n_Fold_wide
  have h_Fold_size : KnM P w K mg base (GY K (He.ga K) (Tof K tf)) 1 "Fold" "size" 1 m_Fold_size [] [] := knM_of F_Fold_size (He.cls_ok (c.t.d.fact 75 (f := .cls "Fold") rfl)) (He.meth_ok (c.t.d.fact 109 (f := .meth "Fold" "size") rfl)) (F_Fold_size.bindsN (ps := ["self"]) fun _ _ _ _ _ _ us hl => match us, hl with | [_], _ => rfl) o_Fold_size
  have o_Fold_then := ok_Fold_then (P := P) (w := w) (mg := mg) (base := base) (ca := He.ga K) (T := Tof K tf) F_Fold_then h_Fold_many C_Fold n_Fold_wide x_Unfit k_Fold h_Fold_size n_Fold_lines h_Fold_to
  have h_Fold_then : KnM P w K mg base (GY K (He.ga K) (Tof K tf)) 4 "Fold" "then" 2 m_Fold_then [] [] := knM_of F_Fold_then (He.cls_ok (c.t.d.fact 75 (f := .cls "Fold") rfl)) (He.meth_ok (c.t.d.fact 110 (f := .meth "Fold" "then") rfl)) (F_Fold_then.bindsN (ps := ["self", "other"]) fun _ _ _ _ _ _ us hl => match us, hl with | [_, _], _ => rfl) o_Fold_then
  have o_law := ok_law (P := P) (w := w) (mg := mg) (base := base) (ca := He.ga K) (T := Tof K tf) F_law B h__law_box h__law_wide h__law_take h__law_shuffled h__law_lines h_spread_text_2_box_lane h_read_spread_2_box_lane k_Body_2_banks h__law_cells h_Body_lay h_Body_held h__law_images hp_spread_text_2_lane_box k_Fold h_Fold_rows h_Fold_then
  exact o_law
end K68
namespace K68
open PySem PySem.StrLaws L2 Mm Fb Gf
inductive Pcs (c : Nat) (t z : List Nat) : List Nat → List Nat → Prop
  | nil : Pcs c t z [] []
  | skip {d : Nat} {l m : List Nat} : d ≠ c → Pcs c t z l m → Pcs c t z (d :: l) (d :: m)
  | hit {l m : List Nat} : Pcs c t z l m → Pcs c t z (c :: t ++ l) (z ++ m)
section
variable {c : Nat} {t z : List Nat}
theorem pcs_repl {l m : List Nat} (h : Pcs c t z l m) : replL (c :: t) z l = m := by
  induction h with
  | nil => exact replL_nil
  | skip h _ ih =>
    rw [replL_miss, ih]
    intro q
    rw [List.length_cons, List.take_succ_cons] at q
    exact h (List.cons.inj q).1
  | @hit l m _ ih =>
    rw [List.cons_append, replL_hit (by simp)]
    · have e : (c :: (t ++ l)).drop (c :: t).length = l := by simp
      rw [e, ih]
    · simp
theorem pcs_app {a b a' b' : List Nat} (h : Pcs c t z a b) (h' : Pcs c t z a' b') : Pcs c t z (a ++ a') (b ++ b') := by
  induction h with
  | nil => exact h'
  | skip n _ ih => exact .skip n ih
  | hit _ ih =>
    rw [List.append_assoc, List.append_assoc]
    exact .hit ih
theorem pcs_id : ∀ {l : List Nat}, c ∉ l → Pcs c t z l l
  | [], _ => .nil
  | d :: l, h => .skip (fun e => h (e ▸ List.mem_cons_self)) (pcs_id fun q => h (List.mem_cons_of_mem _ q))
theorem pcs_self : Pcs c t z (c :: t) z := by
  have := Pcs.hit (c := c) (t := t) (z := z) .nil
  simpa using this
def Alk (c : Nat) (t z : List Nat) (x y : Str) : Prop := Pcs c t z x.cps.toList y.cps.toList
theorem alk_app {a b a' b' : Str} (h : Alk c t z a b) (h' : Alk c t z a' b') : Alk c t z (a ++ a') (b ++ b') := by
  unfold Alk at *
  have e : ∀ x y : Str, (x ++ y).cps.toList = x.cps.toList ++ y.cps.toList := fun x y => Array.toList_append
  rw [e, e]
  exact pcs_app h h'
theorem alk_id {x : Str} (h : c ∉ x.cps.toList) : Alk c t z x x := pcs_id h
inductive Alks (c : Nat) (t z : List Nat) : List Str → List Str → Prop
  | nil : Alks c t z [] []
  | cons {x y : Str} {xs ys : List Str} : Alk c t z x y → Alks c t z xs ys → Alks c t z (x :: xs) (y :: ys)
theorem join_cons (s p : Str) (r : List Str) : (Txt.join s (p :: r)).cps.toList = p.cps.toList ++ glueL s.cps.toList r := glued_list s p r
theorem alk_glue {s : List Nat} (hs : c ∉ s) : ∀ {xs ys : List Str}, Alks c t z xs ys → Pcs c t z (glueL s xs) (glueL s ys)
  | _, _, .nil => .nil
  | _, _, .cons h1 h2 => pcs_app (pcs_id hs) (pcs_app h1 (alk_glue hs h2))
theorem alk_join {s : Str} (hs : c ∉ s.cps.toList) {xs ys : List Str} (h : Alks c t z xs ys) : Alk c t z (Txt.join s xs) (Txt.join s ys) := by
  cases h with
  | nil => exact Pcs.nil
  | cons h1 h2 =>
    unfold Alk
    rw [join_cons, join_cons]
    exact pcs_app h1 (alk_glue hs h2)
theorem alks_app {xs ys xs' ys' : List Str} (h : Alks c t z xs ys) (h' : Alks c t z xs' ys') : Alks c t z (xs ++ xs') (ys ++ ys') := by
  induction h with
  | nil => exact h'
  | cons g _ ih => exact .cons g ih
theorem alks_map {α : Type} {f g : α → Str} : ∀ {ks : List α}, (∀ k ∈ ks, Alk c t z (f k) (g k)) → Alks c t z (ks.map f) (ks.map g)
  | [], _ => .nil
  | k :: ks, h => .cons (h k List.mem_cons_self) (alks_map fun x hx => h x (List.mem_cons_of_mem _ hx))
theorem alks_sel {xs ys : List Str} (h : Alks c t z xs ys) (r : Nat) : Alks c t z (selW xs r) (selW ys r) := by
  unfold selW
  suffices ∀ k, Alks c t z (((xs.zipIdx k).filter fun p => r.testBit p.2).map (·.1)) (((ys.zipIdx k).filter fun p => r.testBit p.2).map (·.1)) from this 0
  induction h with
  | nil => exact fun k => .nil
  | cons g _ ih =>
    intro k
    rw [List.zipIdx_cons, List.zipIdx_cons, List.filter_cons, List.filter_cons]
    split
    · exact .cons g (ih (k + 1))
    · exact ih (k + 1)
theorem alk_text {ws vs bw : List Str} {rs : List Nat} (h : Alks c t z ws vs) (hb : ∀ w ∈ bw, c ∉ w.cps.toList) (h1 : c ∉ (" = " : Str).cps.toList) (h2 : c ∉ (" + " : Str).cps.toList) (h3 : c ∉ ("; " : Str).cps.toList) : Alk c t z (txtOf bw ws rs) (txtOf bw vs rs) := by
  unfold txtOf
  refine alk_join h3 ?_
  unfold parts
  have go : ∀ ps : List (Str × Nat), (∀ p ∈ ps, p.1 ∈ bw) → Alks c t z (ps.filterMap fun p => if p.2 = 0 then none else some (itm p.1 ws p.2)) (ps.filterMap fun p => if p.2 = 0 then none else some (itm p.1 vs p.2)) := by
    intro ps
    induction ps with
    | nil => exact fun _ => .nil
    | cons p ps ih =>
      intro hp
      have ih := ih fun q hq => hp q (List.mem_cons_of_mem _ hq)
      rw [List.filterMap_cons, List.filterMap_cons]
      by_cases e : p.2 = 0
      · rw [if_pos e, if_pos e]
        exact ih
      · rw [if_neg e, if_neg e]
        exact .cons (alk_app (alk_app (alk_id (hb _ (hp p List.mem_cons_self))) (alk_id h1)) (alk_join h2 (alks_sel h p.2))) ih
  exact go _ fun p hp => (List.of_mem_zip hp).1
end
theorem repl_text {y z : Str} {c : Nat} {t : List Nat} (hy : y.cps.toList = c :: t) {a b : Str} (h : Alk c t z.cps.toList a b) : Txt.replace a y z = b := by
  have l : 1 ≤ y.length := by
    have e : y.length = y.cps.toList.length := by simp [Str.length]
    rw [e, hy]
    simp
  refine Str_ext ?_
  rw [replace_list l, hy]
  exact pcs_repl h
def ren (y z x : Str) : Str := if x = y then z else x
def renL (y z : Str) (l : List (Str × Nat)) : List (Str × Nat) := l.map fun p => (ren y z p.1, p.2)
theorem alks_wds {y z : Str} {c : Nat} {t : List Nat} (hy : y.cps.toList = c :: t) : ∀ {l : List (Str × Nat)}, (∀ p ∈ l, p.1 ≠ y → c ∉ p.1.cps.toList) → (∀ p ∈ l, ∀ k, k < p.2 → c ∉ digs k) → Alks c t z.cps.toList (wdsOf l) (wdsOf (renL y z l))
  | [], _, _ => .nil
  | p :: l, h, hd => by
    have ih := alks_wds hy (l := l) (z := z) (fun q hq => h q (List.mem_cons_of_mem _ hq)) fun q hq => hd q (List.mem_cons_of_mem _ hq)
    show Alks c t z.cps.toList ((List.range p.2).map (wd p.1) ++ wdsOf l) ((List.range p.2).map (wd (ren y z p.1)) ++ wdsOf (renL y z l))
    refine alks_app (alks_map fun k hk => ?_) ih
    have dk := hd p List.mem_cons_self k (List.mem_range.mp hk)
    unfold Alk
    rw [wd_cps, wd_cps]
    by_cases e : p.1 = y
    · have e2 : ren y z p.1 = z := by unfold ren; rw [if_pos e]
      rw [e2, e, hy]
      exact pcs_app pcs_self (pcs_id dk)
    · have e2 : ren y z p.1 = p.1 := by unfold ren; rw [if_neg e]
      rw [e2]
      exact pcs_app (pcs_id (h p List.mem_cons_self e)) (pcs_id dk)
theorem repl_one {e : Nat} {z : List Nat} : ∀ l : List Nat, (replL [e] z l).length + l.count e = l.length + l.count e * z.length
  | [] => by rw [replL_nil]; simp
  | d :: l => by
    have ih := repl_one (e := e) (z := z) l
    by_cases h : d = e
    · subst h
      rw [replL_hit (by simp) (by simp)]
      rw [List.length_append, List.length_cons, List.drop_succ_cons, List.count_cons_self, Nat.succ_mul]
      rw [List.length_nil, List.drop_zero, List.length_cons]
      omega
    · rw [replL_miss (by simp [h]), List.length_cons, List.length_cons, List.count_cons_of_ne (fun q => h (by simpa using q))]
      omega
theorem count_sign (x : Str) {y : Str} {e : Nat} (hy : y.cps.toList = [e]) : Txt.count x y = ((x.cps.toList.count e : Nat) : Int) := by
  have ly : y.length = 1 := by
    have e1 : y.length = y.cps.toList.length := by simp [Str.length]
    rw [e1, hy]
    rfl
  have lx : x.cps.toList.length = x.length := by simp [Str.length]
  obtain ⟨z, hz⟩ : ∃ z : Str, z.cps.toList.length = 2 := ⟨⟨#[1, 1]⟩, rfl⟩
  have lz : z.length = 2 := by rw [← hz]; simp [Str.length]
  obtain ⟨oc, ho⟩ : ∃ oc, oc = Builtin.Str.occurrences x y 0 x.length (x.length + 1) := ⟨_, rfl⟩
  have hs : (Builtin.Str.glued y (Builtin.Str.partsBetween x oc y.length)).length = x.length := by rw [ho, StrLaws.glued_between_self]
  rw [size_glued, length_partsBetween, Nat.add_sub_cancel, ly] at hs
  have lr : (Txt.replace x y z).length = x.length + oc.length := by
    unfold Txt.replace
    rw [← ho]
    by_cases e0 : oc = []
    · rw [e0, if_pos (by rfl)]
      simp
    · rw [if_neg (by cases oc with | nil => exact absurd rfl e0 | cons a r => simp [ly]), size_glued, length_partsBetween, Nat.add_sub_cancel, lz, ly]
      omega
  have rl := congrArg List.length (replace_list (x := x) (y := y) (z := z) (by omega))
  have l2 : (Txt.replace x y z).cps.toList.length = (Txt.replace x y z).length := by simp [Str.length]
  have r1 := repl_one (e := e) (z := z.cps.toList) x.cps.toList
  rw [l2, lr, hy] at rl
  rw [← rl, hz, lx] at r1
  show ((Builtin.Str.occurrences x y 0 x.length (x.length + 1)).length : Int) = _
  rw [← ho]
  omega
end K68
namespace K68
open PySem PySem.StrLaws L2 Mm Fb Gf
def nm3 : List Str := ["row", "col", "deep"]
structure Ld (l : List (Str × Nat)) : Prop where
  len : l.length = 3
  pm : (nms l).Perm nm3
  sm : (l.map (·.2)).sum ≤ 7
def mpN (f : Str → Str) (l : List (Str × Nat)) : List (Str × Nat) := l.map fun p => (f p.1, p.2)
theorem mpN_id (l : List (Str × Nat)) : mpN id l = l := by unfold mpN; simp
theorem mpN_ren (y z : Str) (f : Str → Str) (l : List (Str × Nat)) : renL y z (mpN f l) = mpN (fun x => ren y z (f x)) l := by
  unfold mpN renL
  rw [List.map_map]
  rfl
theorem mpN_cnt (f : Str → Str) (l : List (Str × Nat)) : (mpN f l).map (·.2) = l.map (·.2) := by
  unfold mpN
  rw [List.map_map]
  rfl
theorem mem_le {l : List Nat} {x : Nat} (h : x ∈ l) : x ≤ l.sum := by
  induction l with
  | nil => exact absurd h List.not_mem_nil
  | cons a l ih =>
    rw [List.sum_cons]
    rcases List.mem_cons.mp h with rfl | q
    · omega
    · have := ih q
      omega
def okN (f : Str → Str) : Bool := decide ((nm3.map f).Nodup) && nm3.all fun x => nameB (f x) && !decide (f x = "box") && !decide (f x = "lane")
theorem side_of {l : List (Str × Nat)} (h : Ld l) {f : Str → Str} (hf : okN f = true) : sideB (mpN f l) = true := by
  unfold okN at hf
  simp only [Bool.and_eq_true, decide_eq_true_eq, List.all_eq_true, Bool.not_eq_true', decide_eq_false_iff_not] at hf
  obtain ⟨nd, ok⟩ := hf
  have en : nms (mpN f l) = (nms l).map f := by
    unfold nms mpN
    rw [List.map_map, List.map_map]
    rfl
  have pm : (nms (mpN f l)).Perm (nm3.map f) := by rw [en]; exact h.pm.map f
  have mm : ∀ x ∈ nms (mpN f l), ∃ y ∈ nm3, f y = x := fun x hx => List.mem_map.mp (pm.mem_iff.mp hx)
  have ct := mpN_cnt f l
  unfold sideB
  simp only [Bool.and_eq_true, decide_eq_true_eq, List.all_eq_true, Bool.not_eq_true', decide_eq_false_iff_not]
  refine ⟨⟨⟨⟨⟨fun x hx => ?_, pm.nodup_iff.mpr nd⟩, fun hx => ?_⟩, fun hx => ?_⟩, fun p hp => ?_⟩, ?_⟩
  · obtain ⟨y, hy, rfl⟩ := mm x hx
    exact (ok y hy).1.1
  · obtain ⟨y, hy, e⟩ := mm _ hx
    exact (ok y hy).1.2 e
  · obtain ⟨y, hy, e⟩ := mm _ hx
    exact (ok y hy).2 e
  · have : p.2 ∈ l.map (·.2) := by rw [← ct]; exact List.mem_map.mpr ⟨p, hp, rfl⟩
    have := mem_le this
    have := h.sm
    omega
  · rw [ct]
    have := h.sm
    omega
theorem digs_ok : ∀ k, k < 13 → ∀ c ∈ digs k, 48 ≤ c ∧ c ≤ 57 := by
  have h : ((List.range 13).all fun k => (digs k).all fun c => decide (48 ≤ c ∧ c ≤ 57)) = true := by decide +kernel
  intro k hk c hc
  have := List.all_eq_true.mp (List.all_eq_true.mp h k (List.mem_range.mpr hk)) c hc
  exact of_decide_eq_true this
theorem bw_signs {bx ln : Nat} (hb : bx ≤ 12) (hl : ln ≤ 12) {w : Str} (h : w ∈ bws bx ln) : ∀ c ∈ w.cps.toList, (48 ≤ c ∧ c ≤ 57) ∨ c ∈ [98, 111, 120, 108, 97, 110, 101] := by
  obtain ⟨p, hp, hx⟩ := List.mem_flatMap.mp h
  obtain ⟨k, hk, rfl⟩ := List.mem_map.mp hx
  have hk := List.mem_range.mp hk
  intro c hc
  rw [wd_cps] at hc
  rcases List.mem_append.mp hc with q | q
  · right
    simp only [List.mem_cons, List.not_mem_nil, or_false] at hp
    rcases hp with rfl | rfl
    · have : ("box" : Str).cps.toList = [98, 111, 120] := by decide +kernel
      rw [this] at q
      simp only [List.mem_cons, List.not_mem_nil, or_false] at q ⊢
      omega
    · have : ("lane" : Str).cps.toList = [108, 97, 110, 101] := by decide +kernel
      rw [this] at q
      simp only [List.mem_cons, List.not_mem_nil, or_false] at q ⊢
      omega
  · left
    refine digs_ok k ?_ c q
    simp only [List.mem_cons, List.not_mem_nil, or_false] at hp
    rcases hp with rfl | rfl
    · have : k < bx := hk
      omega
    · have : k < ln := hk
      omega
theorem step_text {l : List (Str × Nat)} (h : Ld l) {f : Str → Str} {y z : Str} {c : Nat} {t : List Nat} (hy : y.cps.toList = c :: t) (hc : 61 < c) (hc2 : c ∉ [98, 111, 120, 108, 97, 110, 101]) (hn : ∀ x ∈ nm3, f x ≠ y → c ∉ (f x).cps.toList)
    {bx ln : Nat} (hb : bx ≤ 12) (hl : ln ≤ 12) (rs : List Nat) : Txt.replace (txtOf (bws bx ln) (wdsOf (mpN f l)) rs) y z = txtOf (bws bx ln) (wdsOf (mpN (fun x => ren y z (f x)) l)) rs := by
  rw [← mpN_ren]
  have e1 : (" = " : Str).cps.toList = [32, 61, 32] := by decide +kernel
  have e2 : (" + " : Str).cps.toList = [32, 43, 32] := by decide +kernel
  have e3 : ("; " : Str).cps.toList = [59, 32] := by decide +kernel
  have nn : ∀ m : List Nat, (∀ x ∈ m, x ≤ 61) → c ∉ m := fun m hm q => by
    have := hm c q
    omega
  have sb : ∀ p ∈ mpN f l, ∃ q ∈ l, p.1 = f q.1 ∧ p.2 = q.2 := fun p hp => by
    obtain ⟨q, hq, rfl⟩ := List.mem_map.mp hp
    exact ⟨q, hq, rfl, rfl⟩
  have nmem : ∀ q ∈ l, q.1 ∈ nm3 := fun q hq => h.pm.mem_iff.mp (List.mem_map.mpr ⟨q, hq, rfl⟩)
  refine repl_text hy (alk_text (alks_wds hy (fun p hp ne => ?_) fun p hp k hk => ?_) (fun w hw q => ?_) ?_ ?_ ?_)
  · obtain ⟨q, hq, e4, _⟩ := sb p hp
    rw [e4] at ne ⊢
    exact hn q.1 (nmem q hq) ne
  · obtain ⟨q, hq, _, e4⟩ := sb p hp
    refine nn _ fun x hx => ?_
    have l7 := h.sm
    have : q.2 ≤ (l.map (·.2)).sum := mem_le (List.mem_map.mpr ⟨q, hq, rfl⟩)
    have := digs_ok k (by omega) x hx
    omega
  · rcases bw_signs hb hl hw c q with z | z
    · omega
    · exact hc2 z
  · rw [e1]
    exact nn _ fun x hx => by
      simp only [List.mem_cons, List.not_mem_nil, or_false] at hx
      omega
  · rw [e2]
    exact nn _ fun x hx => by
      simp only [List.mem_cons, List.not_mem_nil, or_false] at hx
      omega
  · rw [e3]
    exact nn _ fun x hx => by
      simp only [List.mem_cons, List.not_mem_nil, or_false] at hx
      omega
def f1 : Str → Str := fun x => ren "row" "x" (id x)
def f2 : Str → Str := fun x => ren "col" "yy" (f1 x)
def f3 : Str → Str := fun x => ren "deep" "zzzzzz" (f2 x)
theorem oks : okN id = true ∧ okN f1 = true ∧ okN f2 = true ∧ okN f3 = true := by
  refine ⟨?_, ?_, ?_, ?_⟩ <;> decide +kernel
theorem cns : (∀ x ∈ nm3, id x ≠ ("row" : Str) → 114 ∉ (id x).cps.toList) ∧ (∀ x ∈ nm3, f1 x ≠ ("col" : Str) → 99 ∉ (f1 x).cps.toList) ∧ (∀ x ∈ nm3, f2 x ≠ ("deep" : Str) → 100 ∉ (f2 x).cps.toList) := by
  refine ⟨?_, ?_, ?_⟩ <;> decide +kernel
section
variable {l : List (Str × Nat)} {bx ln : Nat} {rs : List Nat}
abbrev tx0 (l : List (Str × Nat)) (bx ln : Nat) (rs : List Nat) : Str := txtOf (bws bx ln) (wdsOf l) rs
theorem all_text (h : Ld l) (hb : bx ≤ 12) (hl : ln ≤ 12) : Txt.replace (tx0 l bx ln rs) "row" "x" = tx0 (mpN f1 l) bx ln rs ∧ Txt.replace (tx0 (mpN f1 l) bx ln rs) "col" "yy" = tx0 (mpN f2 l) bx ln rs ∧ Txt.replace (tx0 (mpN f2 l) bx ln rs) "deep" "zzzzzz" = tx0 (mpN f3 l) bx ln rs := by
  obtain ⟨c1, c2, c3⟩ := cns
  have r1 := step_text h (f := id) (y := "row") (z := "x") (c := 114) (t := [111, 119]) (by decide +kernel) (by omega) (by decide) c1 hb hl rs
  have r2 := step_text h (f := f1) (y := "col") (z := "yy") (c := 99) (t := [111, 108]) (by decide +kernel) (by omega) (by decide) c2 hb hl rs
  have r3 := step_text h (f := f2) (y := "deep") (z := "zzzzzz") (c := 100) (t := [101, 101, 112]) (by decide +kernel) (by omega) (by decide) c3 hb hl rs
  rw [mpN_id] at r1
  exact ⟨r1, r2, r3⟩
theorem txt_len (h : Ld l) {f : Str → Str} (hf : okN f = true) (hb : bx ≤ 12) (hl : ln ≤ 12) (h20 : bx + ln ≤ 20) : (tx0 (mpN f l) bx ln rs).length ≤ 2900 := by
  have hB := side_of h hf
  have z : (mpN f l).length ≤ 1000 := by unfold mpN; rw [List.length_map, h.len]; omega
  obtain ⟨_, w2, w3⟩ := sp_words (S := []) hB z
  obtain ⟨_, q2⟩ := bws_ok (S := []) (bx := bx) (ln := ln) hb hl
  have bl := bws_len bx ln
  exact (txtOf_tx (rs := rs) q2 (by omega) w2 w3).2
abbrev kv3 : List (Str × Str) := [("row", "x"), ("col", "yy"), ("deep", "zzzzzz")]
theorem fit_all (h : Ld l) (hb : bx ≤ 12) (hl : ln ≤ 12) (h20 : bx + ln ≤ 20) : fitB kv3 (tx0 l bx ln rs) = true := by
  obtain ⟨r1, r2, r3⟩ := all_text (rs := rs) h hb hl
  obtain ⟨o0, o1, o2, o3⟩ := oks
  have l0 := txt_len (rs := rs) h o0 hb hl h20
  have l1 := txt_len (rs := rs) h o1 hb hl h20
  have l2 := txt_len (rs := rs) h o2 hb hl h20
  rw [mpN_id] at l0
  have d1 : (("row" : Str) == "x") = false := by decide +kernel
  have d2 : (("col" : Str) == "yy") = false := by decide +kernel
  have d3 : (("deep" : Str) == "zzzzzz") = false := by decide +kernel
  have s1 : ("x" : Str).length = 1 := by decide +kernel
  have s2 : ("yy" : Str).length = 2 := by decide +kernel
  have s3 : ("zzzzzz" : Str).length = 6 := by decide +kernel
  unfold fitB fitB fitB fitB
  dsimp only
  rw [r1, r2, d1, d2, d3, s1, s2, s3, decide_eq_true (show _ ≤ 16777216 by omega), decide_eq_true (show _ ≤ 16777216 by omega), decide_eq_true (show _ ≤ 16777216 by omega)]
  rfl
end
end K68
namespace K68
open PySem PySem.StrLaws L2 Mm Fb Gf
abbrev ct (x : Str) : Nat := x.cps.toList.count 61
theorem ct_app (x y : Str) : ct (x ++ y) = ct x + ct y := by
  have e : (x ++ y).cps.toList = x.cps.toList ++ y.cps.toList := Array.toList_append
  unfold ct
  rw [e, List.count_append]
theorem ct_glue (s : Str) : ∀ xs : List Str, (glueL s.cps.toList xs).count 61 = xs.length * ct s + (xs.map ct).sum
  | [] => by simp [glueL]
  | x :: xs => by
    have ih := ct_glue s xs
    rw [glueL, List.count_append, List.count_append, ih, List.length_cons, List.map_cons, List.sum_cons, Nat.succ_mul]
    unfold ct
    omega
theorem ct_join (s : Str) (xs : List Str) : ct (Txt.join s xs) = (xs.length - 1) * ct s + (xs.map ct).sum := by
  cases xs with
  | nil =>
    have e : Txt.join s [] = Str.empty := StrLaws.glued_eq_join s []
    rw [e]
    simp
    rfl
  | cons p r =>
    unfold ct
    rw [join_cons, List.count_append, ct_glue, List.length_cons, List.map_cons, List.sum_cons, Nat.add_sub_cancel]
    unfold ct
    omega
theorem ct_none {x : Str} (h : 61 ∉ x.cps.toList) : ct x = 0 := List.count_eq_zero.mpr h
theorem sum_zero : ∀ {xs : List Str}, (∀ x ∈ xs, ct x = 0) → (xs.map ct).sum = 0
  | [], _ => rfl
  | x :: xs, h => by
    rw [List.map_cons, List.sum_cons, h x List.mem_cons_self, sum_zero fun y hy => h y (List.mem_cons_of_mem _ hy)]
theorem sum_one : ∀ {xs : List Str}, (∀ x ∈ xs, ct x = 1) → (xs.map ct).sum = xs.length
  | [], _ => rfl
  | x :: xs, h => by
    rw [List.map_cons, List.sum_cons, h x List.mem_cons_self, sum_one fun y hy => h y (List.mem_cons_of_mem _ hy), List.length_cons]
    omega
theorem wds_no {l : List (Str × Nat)} (hB : sideB l = true) : ∀ w ∈ wdsOf l, ct w = 0 := fun w hw => by
  obtain ⟨a, _⟩ := sideB_ok hB
  obtain ⟨p, hp, hx⟩ := List.mem_flatMap.mp hw
  obtain ⟨k, hk, rfl⟩ := List.mem_map.mp hx
  have hk := List.mem_range.mp hk
  obtain ⟨nb, c12⟩ := a p hp
  refine ct_none fun q => ?_
  rw [wd_cps] at q
  rcases List.mem_append.mp q with z | z
  · have := name_small nb 61 z
    revert this
    decide +kernel
  · have := digs_ok k (by omega) 61 z
    omega
theorem bws_no {bx ln : Nat} (hb : bx ≤ 12) (hl : ln ≤ 12) : ∀ w ∈ bws bx ln, ct w = 0 := fun w hw => ct_none fun q => by
  rcases bw_signs hb hl hw 61 q with z | z
  · omega
  · simp at z
theorem ct_eq : ct " = " = 1 ∧ ct " + " = 0 ∧ ct "; " = 0 := by
  have e1 : (" = " : Str).cps.toList = [32, 61, 32] := by decide +kernel
  have e2 : (" + " : Str).cps.toList = [32, 43, 32] := by decide +kernel
  have e3 : ("; " : Str).cps.toList = [59, 32] := by decide +kernel
  unfold ct
  rw [e1, e2, e3]
  decide
theorem zip_filt : ∀ (bw : List Str) (rs : List Nat) (g : Str × Nat → Str), bw.length = rs.length → ((bw.zip rs).filterMap fun p => if p.2 = 0 then none else some (g p)).length = (rs.filter fun r => decide (0 < r)).length
  | [], [], _, _ => rfl
  | [], _ :: _, _, h => by simp at h
  | _ :: _, [], _, h => by simp at h
  | w :: bw, r :: rs, g, h => by
    have ih := zip_filt bw rs g (by simpa using h)
    rw [List.zip_cons_cons, List.filterMap_cons, List.filter_cons]
    by_cases e : r = 0
    · subst e
      simp [ih]
    · have : 0 < r := by omega
      simp [e, this, ih]
section
variable {l : List (Str × Nat)} {bx ln : Nat} {rs : List Nat}
theorem count_text (hB : sideB l = true) (hb : bx ≤ 12) (hl : ln ≤ 12) (hr : rs.length = bx + ln) : Txt.count (tx0 l bx ln rs) "=" = (((rs.filter fun r => decide (0 < r)).length : Nat) : Int) := by
  have e : ("=" : Str).cps.toList = [61] := by decide +kernel
  obtain ⟨q1, q2, q3⟩ := ct_eq
  have bl := bws_len bx ln
  rw [count_sign _ e]
  refine congrArg Int.ofNat ?_
  show ct (Txt.join "; " (parts (bws bx ln) (wdsOf l) rs)) = _
  rw [ct_join, q3, Nat.mul_zero, Nat.zero_add, sum_one]
  · exact zip_filt _ rs (fun p => itm p.1 (wdsOf l) p.2) (by omega)
  · intro x hx
    obtain ⟨p, hp, hq⟩ := List.mem_filterMap.mp hx
    split at hq
    · cases hq
    · cases hq
      unfold itm
      rw [ct_app, ct_app, bws_no hb hl _ (List.of_mem_zip hp).1, q1, ct_join, q2, Nat.mul_zero, Nat.zero_add, sum_zero fun y hy => wds_no hB y (sel_mem hy)]
theorem read_other {l2 : List (Str × Nat)} (hB : sideB l = true) (hB2 : sideB l2 = true) (hm : ∀ w ∈ wdsOf l, w ∈ wdsOf l2) (hb : bx ≤ 12) (hln : ln ≤ 12) (h20 : bx + ln ≤ 20) (hl : rs.length = bx + ln) (hr : ∀ r ∈ rs, r < 2 ^ (l.map (·.2)).sum) :
    readOf l2 bx ln (tx0 l bx ln rs) = .ok (vals (wdsOf l2) (wIt (bws bx ln) (wdsOf l) rs)) := by
  have bl := bws_len bx ln
  obtain ⟨wn, ww⟩ := sideB_wds hB
  obtain ⟨bn, bw⟩ := bws_wds hb hln
  have wl := wds_len l
  have hr' : ∀ r ∈ rs, r < 2 ^ (wdsOf l).length := fun r h => by rw [wl]; exact hr r h
  obtain ⟨p1, p2⟩ := parts_map (wdsOf l) (bws bx ln) rs
  have lx : Lx (tx0 l bx ln rs) (List.intercalate [(";" : Str)] ((wIt (bws bx ln) (wdsOf l) rs).map itT)) := by
    unfold tx0 txtOf
    rw [p1, p2, show Txt.join "; " _ = Str.join "; " _ from StrLaws.glued_eq_join _ _]
    refine lx_join lx_sep.2.2.1 lx_sep.2.2.2 _ fun q hq => ?_
    obtain ⟨p, hp, e⟩ := List.mem_filterMap.mp hq
    split at e
    · cases e
    · rename_i n
      cases e
      exact lx_itm (bw _ (List.of_mem_zip hp).1) ww wn (hr' _ (List.of_mem_zip hp).2) n
  refine rsp_items (zero_wd hB2) _ _ (lx_whole lx) (fun j hj => ⟨(wIt_mem hj).1, fun x hx => ?_⟩) (wIt_nd _ _ _ bn) ?_
  · obtain ⟨r, _, _, e⟩ := (wIt_mem hj).2
    rw [e] at hx
    exact hm x (sel_mem hx)
  · have := List.length_filterMap_le (fun p : Str × Nat => if p.2 = 0 then none else some (p.1, selW (wdsOf l) p.2)) ((bws bx ln).zip rs)
    have z : ((bws bx ln).zip rs).length ≤ 20 := by rw [List.length_zip]; omega
    unfold wIt
    omega
theorem sel_zero (ws : List Str) : selW ws 0 = [] := by
  unfold selW
  simp
theorem rows_other {ws ws2 : List Str} : ∀ (bw : List Str) (rs : List Nat), bw.Nodup → rs.length = bw.length → bw.map (lk (vals ws2 (wIt bw ws rs))) = rs.map fun r => xr ws2 0 (selW ws r)
  | [], [], _, _ => rfl
  | [], _ :: _, _, h => by simp at h
  | _ :: _, [], _, h => by simp at h
  | w :: bw, r :: rs, h, hl => by
    obtain ⟨h1, h2⟩ := List.nodup_cons.mp h
    have ih := rows_other (ws := ws) (ws2 := ws2) bw rs h2 (by simpa using hl)
    have nw : w ∉ (vals ws2 (wIt bw ws rs)).map (·.1) := fun q => by
      unfold vals at q
      rw [List.map_map] at q
      obtain ⟨j, hj, e⟩ := List.mem_map.mp q
      have := (wIt_mem hj).1
      have e : j.1 = w := e
      rw [e] at this
      exact h1 this
    rw [wIt_cons]
    by_cases h0 : r = 0
    · rw [if_pos h0, List.map_cons, lk_not nw, ih, List.map_cons, h0, sel_zero]
      rfl
    · rw [if_neg h0, List.map_cons, List.map_cons]
      have e1 : vals ws2 ((w, selW ws r) :: wIt bw ws rs) = (w, xr ws2 0 (selW ws r)) :: vals ws2 (wIt bw ws rs) := rfl
      rw [e1, lk_cons, if_pos rfl]
      have : bw.map (lk ((w, xr ws2 0 (selW ws r)) :: vals ws2 (wIt bw ws rs))) = bw.map (lk (vals ws2 (wIt bw ws rs))) := List.map_congr_left fun x hx => by
        rw [lk_cons, if_neg (fun q : w = x => h1 (q ▸ hx))]
      rw [this, ih]
end
theorem fold_xor {α : Type} (g : α → Nat) : ∀ (zs : List α) (v : Nat), zs.foldl (fun v z => v ^^^ g z) v = v ^^^ zs.foldl (fun v z => v ^^^ g z) 0
  | [], v => by simp
  | z :: zs, v => by
    rw [List.foldl_cons, List.foldl_cons, fold_xor g zs (v ^^^ g z), fold_xor g zs (0 ^^^ g z), Nat.zero_xor, Nat.xor_assoc]
theorem app_bits : ∀ (T : List Nat) (r : Nat), app T r = ((List.range T.length).filter fun i => r.testBit i).foldl (fun v i => v ^^^ T.getD i 0) 0
  | [], r => rfl
  | t :: T, r => by
    have ih := app_bits T (r / 2)
    rw [app_cons, ih, List.length_cons, List.range_succ_eq_map, List.filter_cons, List.filter_map]
    have e : ((fun i => r.testBit i) ∘ Nat.succ) = fun i => (r / 2).testBit i := by
      funext i
      show r.testBit (i + 1) = _
      rw [Nat.testBit_succ]
    rw [e]
    have fm : ∀ (zs : List Nat) (v : Nat), (zs.map Nat.succ).foldl (fun v i => v ^^^ (t :: T).getD i 0) v = zs.foldl (fun v i => v ^^^ T.getD i 0) v := by
      intro zs
      induction zs with
      | nil => exact fun v => rfl
      | cons z zs ih => exact fun v => ih _
    split
    · rw [List.foldl_cons, fm, fold_xor (fun i => T.getD i 0) _ (0 ^^^ (t :: T).getD 0 0)]
      simp
    · rw [fm, Nat.zero_xor]
theorem xr_app {ws ws2 : List Str} {T : List Nat} (hl : T.length = ws.length) (hT : ∀ i, i < ws.length → T.getD i 0 = 2 ^ ws2.idxOf (ws.getD i "")) (r : Nat) : xr ws2 0 (selW ws r) = app T r := by
  rw [selW_rng, app_bits, hl]
  unfold xr
  rw [List.foldl_map]
  have go : ∀ (zs : List Nat) (v : Nat), (∀ z ∈ zs, z < ws.length) → zs.foldl (fun v z => v ^^^ 2 ^ ws2.idxOf (ws.getD z "")) v = zs.foldl (fun v i => v ^^^ T.getD i 0) v := by
    intro zs
    induction zs with
    | nil => exact fun v _ => rfl
    | cons z zs ih =>
      intro v h
      rw [List.foldl_cons, List.foldl_cons, hT z (h z List.mem_cons_self)]
      exact ih _ fun x hx => h x (List.mem_cons_of_mem _ hx)
  exact go _ 0 fun z hz => List.mem_range.mp (List.mem_filter.mp hz).1
abbrev sdA (l : List (Str × Nat)) (j : Nat) : Str × Nat := l.getD j ("", 0)
abbrev stA (l : List (Str × Nat)) (j : Nat) : Nat := ((l.take j).map (·.2)).sum
abbrev turnL (l : List (Str × Nat)) (od : List Nat) : List (Str × Nat) := od.map (sdA l)
abbrev movL (l : List (Str × Nat)) (od : List Nat) : List Nat := od.flatMap fun j => (List.range (sdA l j).2).map (stA l j + ·)
theorem wds_at : ∀ (l : List (Str × Nat)) (j k : Nat), j < l.length → k < (sdA l j).2 → (wdsOf l).getD (stA l j + k) "" = wd (sdA l j).1 k
  | [], j, k, h, _ => absurd h (Nat.not_lt_zero _)
  | p :: l, 0, k, _, hk => by
    have hk : k < p.2 := hk
    show (((List.range p.2).map (wd p.1)) ++ wdsOf l).getD (0 + k) "" = wd p.1 k
    rw [Nat.zero_add, List.getD_eq_getElem?_getD, List.getElem?_append_left (by simpa using hk), List.getElem?_map, List.getElem?_range hk]
    rfl
  | p :: l, j + 1, k, h, hk => by
    have ih := wds_at l j k (by simpa using h) hk
    show (((List.range p.2).map (wd p.1)) ++ wdsOf l).getD (((p :: l.take j).map (·.2)).sum + k) "" = _
    rw [List.map_cons, List.sum_cons, List.getD_eq_getElem?_getD, List.getElem?_append_right (by simp; omega), List.length_map, List.length_range, show p.2 + ((l.take j).map (·.2)).sum + k - p.2 = ((l.take j).map (·.2)).sum + k by omega, ← List.getD_eq_getElem?_getD]
    exact ih
theorem wds_turn {l : List (Str × Nat)} {od : List Nat} (h : ∀ j ∈ od, j < l.length) : wdsOf (turnL l od) = (movL l od).map fun i => (wdsOf l).getD i "" := by
  unfold turnL movL wdsOf
  rw [List.flatMap_map, List.map_flatMap]
  have go : ∀ od : List Nat, (∀ j ∈ od, j < l.length) → (od.flatMap fun j => (List.range (sdA l j).2).map (wd (sdA l j).1)) = od.flatMap fun j => ((List.range (sdA l j).2).map (stA l j + ·)).map fun i => (wdsOf l).getD i "" := by
    intro od
    induction od with
    | nil => exact fun _ => rfl
    | cons j od ih =>
      intro h
      rw [List.flatMap_cons, List.flatMap_cons, ih fun x hx => h x (List.mem_cons_of_mem _ hx)]
      congr 1
      rw [List.map_map]
      refine List.map_congr_left fun k hk => ?_
      exact (wds_at l j k (h j List.mem_cons_self) (List.mem_range.mp hk)).symm
  exact go od h
theorem mov_perm {l : List (Str × Nat)} {od : List Nat} (h3 : l.length = 3) (hp : od.Perm [0, 1, 2]) : (movL l od).Perm (List.range (l.map (·.2)).sum) := by
  refine (List.Perm.flatMap_right _ hp).trans ?_
  match l, h3 with
  | [a, b, c], _ =>
    have e : (movL [a, b, c] [0, 1, 2]) = List.range ([a, b, c].map (·.2)).sum := by
      simp [movL, sdA, stA, List.range_add]
      intros
      omega
    unfold movL at e
    rw [e]
theorem idx_map {f : Nat → Str} : ∀ (M : List Nat) (i : Nat), (∀ a ∈ M, f a = f i → a = i) → (M.map f).idxOf (f i) = M.idxOf i
  | [], i, _ => rfl
  | a :: M, i, h => by
    have ih := idx_map M i fun x hx => h x (List.mem_cons_of_mem _ hx)
    rw [List.map_cons, List.idxOf_cons, List.idxOf_cons, ih]
    by_cases e : a = i
    · subst e
      simp
    · have ne : f a ≠ f i := fun q => e (h a List.mem_cons_self q)
      rw [show (f a == f i) = false from beq_eq_false_iff_ne.mpr ne, show (a == i) = false from beq_eq_false_iff_ne.mpr e]
abbrev trnT (l : List (Str × Nat)) (od : List Nat) : List Nat := (List.range (l.map (·.2)).sum).map fun i => 2 ^ (movL l od).idxOf i
theorem rows_turn {l : List (Str × Nat)} {od : List Nat} {bx ln : Nat} {rs : List Nat} (hB : sideB l = true) (h3 : l.length = 3) (hp : od.Perm [0, 1, 2]) (hb : bx ≤ 12) (hln : ln ≤ 12) (hl : rs.length = bx + ln) :
    (bws bx ln).map (lk (vals (wdsOf (turnL l od)) (wIt (bws bx ln) (wdsOf l) rs))) = rs.map (app (trnT l od)) := by
  have bl := bws_len bx ln
  have hj : ∀ j ∈ od, j < l.length := fun j hj => by
    have := hp.mem_iff.mp hj
    simp at this
    omega
  rw [rows_other _ _ (bws_wds hb hln).1 (by omega)]
  refine List.map_congr_left fun r _ => ?_
  have wl := wds_len l
  refine xr_app (T := trnT l od) (by rw [List.length_map, List.length_range, wl]) (fun i hi => ?_) r
  rw [wl] at hi
  have eT : (trnT l od).getD i 0 = 2 ^ (movL l od).idxOf i := by
    rw [List.getD_eq_getElem?_getD, List.getElem?_map, List.getElem?_range hi]
    rfl
  have ei := idx_map (f := fun i => (wdsOf l).getD i "") (movL l od) i fun a ha e => by
    have ha := List.mem_range.mp ((mov_perm h3 hp).mem_iff.mp ha)
    have la : a < (wdsOf l).length := by rw [wl]; exact ha
    have li : i < (wdsOf l).length := by rw [wl]; exact hi
    rw [List.getD_eq_getElem?_getD, List.getD_eq_getElem?_getD, List.getElem?_eq_getElem la, List.getElem?_eq_getElem li] at e
    exact (List.getElem_inj (sideB_wds hB).1).mp e
  rw [eT, wds_turn hj]
  exact congrArg (2 ^ ·) ei.symm
theorem words_turn {l : List (Str × Nat)} {od : List Nat} (h3 : l.length = 3) (hp : od.Perm [0, 1, 2]) : ∀ w ∈ wdsOf l, w ∈ wdsOf (turnL l od) := fun w hw => by
  obtain ⟨p, hp2, hx⟩ := List.mem_flatMap.mp hw
  refine List.mem_flatMap.mpr ⟨p, ?_, hx⟩
  obtain ⟨j, hj⟩ := List.getElem?_of_mem hp2
  have lj := (List.getElem?_eq_some_iff.mp hj).1
  refine List.mem_map.mpr ⟨j, hp.mem_iff.mpr (by simp; omega), ?_⟩
  unfold sdA
  rw [List.getD_eq_getElem?_getD, hj]
  rfl
end K68
namespace Fb
open PySem L2 Mm Gf
abbrev Fr := List (Str × Nat)
def bts : Fr → List Str → Nat
  | [], _ => 0
  | p :: F, s => if p.1 ∈ s then p.2 + bts F s else bts F s
def wix (A : Str → Nat) : Fr → List Str → Nat
  | [], _ => 0
  | p :: F, s => if p.1 ∈ s then A p.1 + 2 ^ p.2 * wix A F s else wix A F s
def ordF (F : Fr) (s : List Str) : List Str := (nms F).filter fun x => decide (x ∈ s)
end Fb
namespace Fb
open PySem L2 Mm Gf
inductive Tr where
  | nm (x : Str)
  | sm (x : Str) (t : Tr)
  | bi (k : Str) (a b : Tr)
def Tr.d : Tr → D
  | .nm x => .tup [.str "name", .str x]
  | .sm x t => .tup [.str "sum", .str x, t.d]
  | .bi k a b => .tup [.str k, a.d, b.d]
def sid (F : Fr) (sd : Str → List Str) : Tr → List Str
  | .nm x => ordF F (sd x)
  | .sm x t => (sid F sd t).filter fun y => decide (y ≠ x)
  | .bi _ a b => ordF F (sid F sd a ++ sid F sd b)
def upd (A : Str → Nat) (x : Str) (k : Nat) : Str → Nat := fun y => if y = x then k else A y
def ev (F : Fr) (sd : Str → List Str) (cs : Str → List Int) : Tr → (Str → Nat) → Int
  | .nm x, A => (cs x).getD (wix A F (sd x)) 0
  | .sm x t, A => sm (2 ^ bts F [x]) (fun _ => true) fun k => ev F sd cs t (upd A x k)
  | .bi k a b, A => mixI k (ev F sd cs a A) (ev F sd cs b A)
end Fb
namespace Fb
open PySem L2 Mm Gf
abbrev sL (ys : List Str) : D := .lst (ys.map D.str)
end Fb
namespace Fb
open PySem L2 Mm Gf
section
variable {R : Sto} {F : Fr} {deep : Nat} {K : List Str} {sd : Str → List Str} {ln : Str → List Nat} {cs : Str → List Int}
theorem sidesP (s : List Str) (hl : s.length ≤ 1000) {b : Cell} (hb : Bx b) : ∃ (b' : Cell) (s' : List Str), m__law_shuffled [.ref 0, sL s] (b :: R) = .ok (.own (.lst (s'.map D.str))) (b' :: R) ∧ Bx b' ∧ s'.Perm s := by
  obtain ⟨b1, ys, s1, hb1, p⟩ := shuffledDR (R := R) hb (s.map D.str) (by simpa using hl)
  obtain ⟨N, rfl, pN⟩ := permF unS (fun _ => rfl) p
  exact ⟨b1, N, s1, hb1, pN⟩
end
end Fb
namespace Fb
open PySem L2 Mm Gf
def er (F : Fr) (sd : Str → List Str) (K : List Str) : Tr → Option (Bool × Str)
  | .nm x => if x ∈ K then none else some (false, x)
  | .sm x t => match er F sd K t with
    | some e => some e
    | none => if x ∈ sid F sd t then none else some (true, x)
  | .bi _ a b => match er F sd K a with
    | some e => some e
    | none => er F sd K b
end Fb
namespace Fb
open PySem L2 Mm Gf
abbrev SG : List (Str × Str) := [("+", "plus"), ("-", "less"), ("<", "least"), (">", "most")]
end Fb
namespace Fb
open PySem L2 Mm Gf
def sgnOf (w : Str) : Str := if w = "plus" then "+" else if w = "less" then "-" else if w = "least" then "<" else ">"
def isAt : Tr → Bool
  | .bi _ _ _ => false
  | _ => true
def brk (t : Tr) (z : Str) : Str := if isAt t = true then z else "(" ++ z ++ ")"
end Fb
namespace Fb
open PySem L2 Mm Gf
def opw (W : List Str) : Nat := (W.filter fun x => decide (x = ("(" : Str))).length
def brkW (t : Tr) (W : List Str) : List Str := if isAt t = true then W else ("(" : Str) :: (W ++ [(")" : Str)])
def wdT : Tr → List Str
  | .nm x => [x]
  | .sm x t => brkW t (wdT t) ++ [("/" : Str), x]
  | .bi w a b => wdT a ++ sgnOf w :: brkW b (wdT b)
end Fb
namespace Fb
open PySem L2 Mm Gf
def isM (x : Str) : Bool := decide (x = "/") || (SG.lookup x).isSome
def ms (r : List Tok) : Nat := (r.filter fun t => isM t.1).length
def pw (t : Tr) : Nat := opw (brkW t (wdT t))
end Fb
namespace Fb
open PySem L2 Mm Gf
theorem cutD_take (xs : List D) (i : Nat) : cutD xs none (some (i : Int)) = xs.take i := by
  unfold cutD
  rw [HT.sIx_none, HT.sIx_nat, List.drop_zero, Nat.sub_zero]
  rcases Nat.le_total i xs.length with h | h
  · rw [Nat.min_eq_left h]
  · rw [Nat.min_eq_right h, List.take_of_length_le (Nat.le_refl _), List.take_of_length_le h]
end Fb
namespace K68
open PySem L2 Mm Fb Gf
noncomputable def xk0 : MS := sCell 1 (fCall m__law_box [] (aCons (eV 0) aNil))
noncomputable def xk1 : MS := sAsg (eCall m__law_wide [] (aCons (eV 1) aNil)) (gN 2)
noncomputable def xk2 : MS := sAsg (eOp dAdd (eOp fIx (eV 2) (eC (.int 0))) (eOp fIx (eV 2) (eC (.int 1)))) (gN 3)
noncomputable def xk3 : MS := sAsg (eCB fMax2 (aCons (eC (.int 0)) (aCons (eOp iSub (eV 3) (eCall m__law_take [] (aCons (eV 1) (aCons (eC (.int 2)) aNil)))) aNil))) (gN 4)
noncomputable def xk4 : MS := sOwn 5 (fLst aNil)
noncomputable def xk5 : MS := sFor (itL (eCall m__law_shuffled [] (aCons (eV 1) (aCons (mFrz (fLst (aCons (eC (.str "row")) (aCons (eC (.str "col")) (aCons (eC (.str "deep")) aNil))))) aNil)))) (gN 6) (sSeq (sAsg (eIf (cB (eOp iLt (eLenA 5) (eC (.int 2)))) (eCall m__law_take [] (aCons (eV 1) (aCons (eOp dAdd (eV 4) (eC (.int 1))) aNil))) (eV 4)) (gN 7)) (sSeq (sApp 5 (eTup (aCons (eV 6) (aCons (eV 7) aNil)))) (sAug 4 (fun i j => i - j) (eV 7))))
noncomputable def xk6 : MS := sAsg (eCB fSum (aCons (mFrz (fLc (itL (eV 5)) (gN 24) cYes (eOp fIx (eV 24) (eC (.int 1))) [24])) aNil)) (gN 8)
noncomputable def xk7 : MS := sAsg (eCall m__law_lines [] (aCons (eV 1) (aCons (eV 3) (aCons (eV 8) aNil)))) (gN 9)
noncomputable def xk8 : MS := sAsg (eCall m_spread_text [] (aCat (aCons (eV 9) (aCons (eV 5) aNil)) (aCons (eOp fIx (eV 2) (eC (.int 0))) (aCons (eOp fIx (eV 2) (eC (.int 1))) aNil)))) (gN 10)
noncomputable def xk9 : MS := sAsg (eCall m_read_spread [] (aCat (aCons (eV 10) (aCons (eV 5) aNil)) (aCons (eOp fIx (eV 2) (eC (.int 0))) (aCons (eOp fIx (eV 2) (eC (.int 1))) aNil)))) (gN 11)
noncomputable def xk10 : MS := sAsg (eNewC "Body" m_BodyU_initU [] (aCat (aCons (eOp fIx (eV 2) (eC (.int 0))) (aCons (eOp fIx (eV 2) (eC (.int 1))) aNil)) (aCons (eOp fIx (eV 2) (eC (.int 2))) aNil))) (gN 12)
noncomputable def xk11 : MS := sAsg (eCall m__law_cells [] (aCons (eV 1) (aCons (eV 8) aNil))) (gN 13)
noncomputable def xk12 : MS := sExpr (eMeth "Body" "lay" m_Body_lay [] (eV 12) (aCons (eC (.str "b")) (aCons (eV 11) (aCons (eV 13) aNil))))
noncomputable def xk13 : MS := sAsg (mFrz (fLc (itR1 (aCons (eOp iShl (eC (.int 1)) (eV 3)) aNil)) (gN 25) cYes (eMeth "Body" "held" m_Body_held_k68 [] (eV 12) (aCons (eC (.str "b")) (aCons (eV 25) aNil))) [25])) (gN 14)
noncomputable def xk14 : MS := sIf (cOr (cB (eOp fNe (eV 11) (eV 9))) (cB (eOp fNe (eV 14) (mFrz (fLc (itL (eCall m__law_images [] (aCons (eV 9) aNil))) (gN 26) cYes (eOp fIx (eV 13) (eV 26)) [26]))))) (sRet (eC (.bl false))) sNil
noncomputable def xk15 : MS := sIf (cB (eOp fNe (eCntS (eV 10) (eC (.str "="))) (eCB fLen (aCons (mFrz (fLc (itL (eV 9)) (gN 27) (cB (eOp iGt (eV 27) (eC (.int 0)))) (eV 27) [27])) aNil)))) (sRet (eC (.bl false))) sNil
noncomputable def xk16 : MS := sAsg (mFrz (fLc (itL (eV 5)) (gT (gNC (gN 6) (gNC (gN 7) gN0))) cYes (eTup (aCons (eDGetA 15 (eV 6)) (aCons (eV 7) aNil))) [6, 7])) (gN 16)
noncomputable def xk17 : MS := sAsg (eCall m_spread_text [] (aCat (aCons (eV 9) (aCons (eV 16) aNil)) (aCons (eOp fIx (eV 2) (eC (.int 0))) (aCons (eOp fIx (eV 2) (eC (.int 1))) aNil)))) (gN 17)
noncomputable def xk18 : MS := sIf (cB (eOp fNe (eV 17) (eV 10))) (sRet (eC (.bl false))) sNil
noncomputable def xk19 : MS := sAsg (eCall m__law_shuffled [] (aCons (eV 1) (aCons (mFrz (fLstR1 (eC (.int 3)))) aNil))) (gN 18)
noncomputable def xk20 : MS := sAsg (eCall m_spread_text [] (aCat (aCons (eV 9) (aCons (eV 5) aNil)) (aPick [1, 0] (aCons (eOp fIx (eV 2) (eC (.int 1))) (aCons (eOp fIx (eV 2) (eC (.int 0))) aNil))))) (gN 10)
noncomputable def xk21 : MS := sAsg (mFrz (fLc (itL (eV 18)) (gN 22) cYes (eIxA 5 (eV 22)) [22])) (gN 19)
noncomputable def xk22 : MS := sAsg (eCall m_read_spread [] (aCat (aCons (eV 10) (aCons (eV 19) aNil)) (aCons (eOp fIx (eV 2) (eC (.int 0))) (aCons (eOp fIx (eV 2) (eC (.int 1))) aNil)))) (gN 16)
noncomputable def xk23 : MS := sAsg (mFrz (fLst aNil)) (gN 20)
noncomputable def xk24 : MS := sAsg (mFrz (fLc (itR1 (aCons (eC (.int 3)) aNil)) (gN 22) cYes (eCB fSum (aCons (mFrz (fLc (itL (mFrz (fSl (eV 5) oNone (oSome (eV 22))))) (gT (gNC (gN 6) (gNC (gN 7) gN0))) cYes (eV 7) [6, 7])) aNil)) [22])) (gN 21)
noncomputable def xk25 : MS := sFor (itL (eV 18)) (gN 22) (sFrz 5 (sAsg (eOp dAdd (eV 20) (mFrz (fLc (itR1 (aCons (eOp fIx (eIxA 5 (eV 22)) (eC (.int 1))) aNil)) (gN 25) cYes (eOp dAdd (eOp fIx (eV 21) (eV 22)) (eV 25)) [25]))) (gN 20)))
noncomputable def xk26 : MS := sAsg (eNew "Fold" m_FoldU_initU [] (aCons (mFrz (fLc (itR1 (aCons (eV 8) aNil)) (gN 22) cYes (eOp iShl (eC (.int 1)) (eIdx (eV 20) (eV 22))) [22])) (aCons (eV 8) aNil))) (gN 23)
noncomputable def xk27 : MS := sRet (eOp fEq (eMeth "Fold" "rows" m_Fold_rows [] (eMeth "Fold" "then" m_Fold_then [] (eNew "Fold" m_FoldU_initU [] (aCons (eV 9) (aCons (eV 8) aNil))) (aCons (eV 23) aNil)) aNil) (eV 16))
theorem m_law_eq : m_law = mFn 28 (sSeq xk0 (sSeq xk1 (sSeq xk2 (sSeq xk3 (sSeq xk4 (sSeq xk5 (sFrz 5 (sSeq xk6 (sSeq xk7 (sFrz 5 (sSeq xk8 (sSeq xk9 (sSeq xk10 (sSeq xk11 (sSeq xk12 (sSeq xk13 (sSeq xk14 (sSeq xk15 (sRawD 15 kv3 (sSeq xk16 (sSeq xk17 (sReplD 6 10 kv3 (sSeq xk18 (sSeq xk19 (sFrz 5 (sSeq xk20 (sFrz 5 (sSeq xk21 (sSeq xk22 (sSeq xk23 (sFrz 5 (sSeq xk24 (sSeq xk25 (sSeq xk26 (xk27))))))))))))))))))))))))))))))))))) := rfl
section
variable {ns : List Int} {s2 s3 s4 s5 s6 s7 s8 s9 s10 s11 s12 s13 s14 s15 s16 s17 s18 s19 s20 s21 s22 s23 s24 s25 s26 s27 : Sl} {S S1 : Sto} {l : List (Str × Nat)} {x y z d v n : Nat} {A : List Nat} {cs : List Int} {T : Str}
theorem t1 {a : D} (h : m__law_wide [.ref 0] S = .ok (.val a) S1) : xk1 [.v (.scr ns), .v (.ref 0), s2, s3, s4, s5, s6, s7, s8, s9, s10, s11, s12, s13, s14, s15, s16, s17, s18, s19, s20, s21, s22, s23, s24, s25, s26, s27] S = .nx [.v (.scr ns), .v (.ref 0), .v a, s3, s4, s5, s6, s7, s8, s9, s10, s11, s12, s13, s14, s15, s16, s17, s18, s19, s20, s21, s22, s23, s24, s25, s26, s27] S1 := by
  simp [xk1, h]
theorem t2 (h : d = x + y) : xk2 [.v (.scr ns), .v (.ref 0), .v (.tup [nd x, nd y, nd z]), s3, s4, s5, s6, s7, s8, s9, s10, s11, s12, s13, s14, s15, s16, s17, s18, s19, s20, s21, s22, s23, s24, s25, s26, s27] S = .nx [.v (.scr ns), .v (.ref 0), .v (.tup [nd x, nd y, nd z]), .v (nd d), s4, s5, s6, s7, s8, s9, s10, s11, s12, s13, s14, s15, s16, s17, s18, s19, s20, s21, s22, s23, s24, s25, s26, s27] S := by
  subst h
  simp [xk2]
theorem t3 {t : Nat} (h : m__law_take [.ref 0, .int 2] S = .ok (.val (nd t)) S1) : xk3 [.v (.scr ns), .v (.ref 0), s2, .v (nd d), s4, s5, s6, s7, s8, s9, s10, s11, s12, s13, s14, s15, s16, s17, s18, s19, s20, s21, s22, s23, s24, s25, s26, s27] S = .nx [.v (.scr ns), .v (.ref 0), s2, .v (nd d), .v (nd (d - t)), s5, s6, s7, s8, s9, s10, s11, s12, s13, s14, s15, s16, s17, s18, s19, s20, s21, s22, s23, s24, s25, s26, s27] S1 := by
  have e : (fun S : Sto => fMax2 S [.int 0, .int ((d : Int) - (t : Int))]) = fun S => some (nd (d - t)) := by
    funext S
    show some (D.int (if (d : Int) - t > 0 then (d : Int) - t else 0)) = some (nd (d - t))
    congr 2
    split <;> omega
  have e := congrFun e S1
  simp [xk3, h, e, -fMax2_eq]
theorem t4  : xk4 [.v (.scr ns), .v (.ref 0), s2, s3, s4, s5, s6, s7, s8, s9, s10, s11, s12, s13, s14, s15, s16, s17, s18, s19, s20, s21, s22, s23, s24, s25, s26, s27] S = .nx [.v (.scr ns), .v (.ref 0), s2, s3, s4, .o (.lst []), s6, s7, s8, s9, s10, s11, s12, s13, s14, s15, s16, s17, s18, s19, s20, s21, s22, s23, s24, s25, s26, s27] S := by
  have s0 := szB_of (n := 0) (by omega)
  simp [xk4, s0]
theorem sum_int : ∀ l : List (Str × Nat), (l.map fun p => (p.2 : Int)).sum = (((l.map (·.2)).sum : Nat) : Int)
  | [] => rfl
  | p :: l => by
    rw [List.map_cons, List.sum_cons, sum_int l, List.map_cons, List.sum_cons]
    omega
theorem t6 (hz : l.length = 3) : xk6 [.v (.scr ns), .v (.ref 0), s2, s3, s4, .v (.lst (l.map dS)), s6, s7, s8, s9, s10, s11, s12, s13, s14, s15, s16, s17, s18, s19, s20, s21, s22, s23, s24, s25, s26, s27] S = .nx [.v (.scr ns), .v (.ref 0), s2, s3, s4, .v (.lst (l.map dS)), s6, s7, .v (nd (l.map (·.2)).sum), s9, s10, s11, s12, s13, s14, s15, s16, s17, s18, s19, s20, s21, s22, s23, s24, s25, s26, s27] S := by
  have lc : fLc (itL (eV 5)) (gN 24) cYes (eOp fIx (eV 24) (eC (.int 1))) [24] [.v (.scr ns), .v (.ref 0), s2, s3, s4, .v (.lst (l.map dS)), s6, s7, s8, s9, s10, s11, s12, s13, s14, s15, s16, s17, s18, s19, s20, s21, s22, s23, s24, s25, s26, s27] S = .ok (.lst ((l.map fun p => (p.2 : Int)).map D.int)) S := by
    rw [List.map_map]
    exact flc_of dS (fun p => nd p.2) l (by simp) (by omega) fun p hp => by simp [dS]
  have sm := fSum_l S (l.map fun p => (p.2 : Int)) (by simp; omega)
  have hs := sum_int l
  rw [hs] at sm
  generalize (l.map fun p => (p.2 : Int)).map D.int = ys at *
  generalize (l.map (·.2)).sum = q at *
  simp [xk6, lc, sm, -fLc_eq]
theorem t7 {a : D} (h : m__law_lines [.ref 0, nd d, nd v] S = .ok (.val a) S1) : xk7 [.v (.scr ns), .v (.ref 0), s2, .v (nd d), s4, s5, s6, s7, .v (nd v), s9, s10, s11, s12, s13, s14, s15, s16, s17, s18, s19, s20, s21, s22, s23, s24, s25, s26, s27] S = .nx [.v (.scr ns), .v (.ref 0), s2, .v (nd d), s4, s5, s6, s7, .v (nd v), .v a, s10, s11, s12, s13, s14, s15, s16, s17, s18, s19, s20, s21, s22, s23, s24, s25, s26, s27] S1 := by
  simp [xk7, h]
theorem t8 {a q r : D} (h : m_spread_text [a, q, nd x, nd y] S = .ok (.val r) S) : xk8 [.v (.scr ns), .v (.ref 0), .v (.tup [nd x, nd y, nd z]), s3, s4, .v q, s6, s7, s8, .v a, s10, s11, s12, s13, s14, s15, s16, s17, s18, s19, s20, s21, s22, s23, s24, s25, s26, s27] S = .nx [.v (.scr ns), .v (.ref 0), .v (.tup [nd x, nd y, nd z]), s3, s4, .v q, s6, s7, s8, .v a, .v r, s11, s12, s13, s14, s15, s16, s17, s18, s19, s20, s21, s22, s23, s24, s25, s26, s27] S := by
  simp [xk8, h]
theorem t9 {a q r : D} (h : m_read_spread [a, q, nd x, nd y] S = .ok (.val r) S1) : xk9 [.v (.scr ns), .v (.ref 0), .v (.tup [nd x, nd y, nd z]), s3, s4, .v q, s6, s7, s8, s9, .v a, s11, s12, s13, s14, s15, s16, s17, s18, s19, s20, s21, s22, s23, s24, s25, s26, s27] S = .nx [.v (.scr ns), .v (.ref 0), .v (.tup [nd x, nd y, nd z]), s3, s4, .v q, s6, s7, s8, s9, .v a, .v r, s12, s13, s14, s15, s16, s17, s18, s19, s20, s21, s22, s23, s24, s25, s26, s27] S1 := by
  simp [xk9, h]
theorem t10 (h : m_BodyU_initU [.ref S.length, nd x, nd y, nd z] (S ++ [.ins "Body" []]) = .ok (.val .non) S1) (hn : S.length = n) : xk10 [.v (.scr ns), .v (.ref 0), .v (.tup [nd x, nd y, nd z]), s3, s4, s5, s6, s7, s8, s9, s10, s11, s12, s13, s14, s15, s16, s17, s18, s19, s20, s21, s22, s23, s24, s25, s26, s27] S = .nx [.v (.scr ns), .v (.ref 0), .v (.tup [nd x, nd y, nd z]), s3, s4, s5, s6, s7, s8, s9, s10, s11, .v (.ref n), s13, s14, s15, s16, s17, s18, s19, s20, s21, s22, s23, s24, s25, s26, s27] S1 := by
  subst hn
  simp [xk10, h]
theorem t11 {a : D} (h : m__law_cells [.ref 0, nd v] S = .ok (.val a) S1) : xk11 [.v (.scr ns), .v (.ref 0), s2, s3, s4, s5, s6, s7, .v (nd v), s9, s10, s11, s12, s13, s14, s15, s16, s17, s18, s19, s20, s21, s22, s23, s24, s25, s26, s27] S = .nx [.v (.scr ns), .v (.ref 0), s2, s3, s4, s5, s6, s7, .v (nd v), s9, s10, s11, s12, .v a, s14, s15, s16, s17, s18, s19, s20, s21, s22, s23, s24, s25, s26, s27] S1 := by
  simp [xk11, h]
theorem t12 {a c : D} {b k l : Nat} {p q : Int} (i : S[n]? = some (.ins "Body" (bfs n b l k p q))) (h : m_Body_lay [.ref n, .str "b", a, c] S = .ok (.val .non) S1) : xk12 [.v (.scr ns), .v (.ref 0), s2, s3, s4, s5, s6, s7, s8, s9, s10, .v a, .v (.ref n), .v c, s14, s15, s16, s17, s18, s19, s20, s21, s22, s23, s24, s25, s26, s27] S = .nx [.v (.scr ns), .v (.ref 0), s2, s3, s4, s5, s6, s7, s8, s9, s10, .v a, .v (.ref n), .v c, s14, s15, s16, s17, s18, s19, s20, s21, s22, s23, s24, s25, s26, s27] S1 := by
  simp [xk12, i, h]
theorem heldK {b l k : Nat} {ts ss : List (Key × D)} {p q : Int} (h : Bd S n b l k ts ss p q) {x : Str} (hn : lookK ts (.inr x) = some (tab A v cs)) {y : Nat} (hy : y < 2 ^ A.length) : m_Body_held_k68 [.ref n, .str x, .int y] S = .ok (.val (.int (cs.getD (app A y) 0))) S := by
  have i := h.ins
  have N := bneed_ok h hn
  unfold tab at N
  have at_ := atI_il (xs := grp A cs) (i := y) (by rw [grp_len]; exact hy)
  rw [grp_at A cs hy] at at_
  have n0 : ¬ (y : Int) < 0 := by omega
  have n1 : ¬ ((grp A cs).length : Int) ≤ (y : Int) := by rw [grp_len]; omega
  have i0 : fIsNot S .non .non = some (.bl false) := rfl
  have bn : m_Table_berth_now_k68 [tbl A v (grp A cs) .non, .int y] S = .ok (.val (.int (cs.getD (app A y) 0))) S := by
    simp [m_Table_berth_now_k68, at_, i0]
  simp [m_Body_held_k68, i, N, n0, n1, bn]
theorem t13 {b k l : Nat} {p q : Int} (hd : d ≤ 12) (i : S[n]? = some (.ins "Body" (bfs n b l k p q))) (h : ∀ y, y < 2 ^ d → m_Body_held_k68 [.ref n, .str "b", .int (y : Nat)] S = .ok (.val (.int (cs.getD (app A y) 0))) S) : xk13 [.v (.scr ns), .v (.ref 0), s2, .v (nd d), s4, s5, s6, s7, s8, s9, s10, s11, .v (.ref n), s13, s14, s15, s16, s17, s18, s19, s20, s21, s22, s23, s24, s25, s26, s27] S = .nx [.v (.scr ns), .v (.ref 0), s2, .v (nd d), s4, s5, s6, s7, s8, s9, s10, s11, .v (.ref n), s13, .v (.lst (((List.range (2 ^ d)).map fun y => cs.getD (app A y) 0).map D.int)), s15, s16, s17, s18, s19, s20, s21, s22, s23, s24, s25, s26, s27] S := by
  have pw := powB_nat (i := 1) (by decide) d (by omega)
  have p12 : 2 ^ d ≤ 100000 := Nat.le_trans (Nat.pow_le_pow_right (by decide) hd) (by decide : 2 ^ 12 ≤ 100000)
  have lc : fLc (itR1 (aCons (eOp iShl (eC (.int 1)) (eV 3)) aNil)) (gN 25) cYes (eMeth "Body" "held" m_Body_held_k68 [] (eV 12) (aCons (eC (.str "b")) (aCons (eV 25) aNil))) [25] [.v (.scr ns), .v (.ref 0), s2, .v (nd d), s4, s5, s6, s7, s8, s9, s10, s11, .v (.ref n), s13, s14, s15, s16, s17, s18, s19, s20, s21, s22, s23, s24, s25, s26, s27] S = .ok (.lst (((List.range (2 ^ d)).map fun y => cs.getD (app A y) 0).map D.int)) S := by
    rw [List.map_map]
    refine flc_of (fun y : Nat => nd y) (fun y : Nat => .int (cs.getD (app A y) 0)) (List.range (2 ^ d)) (itR1_nat (by simp [pw]) p12) (by simpa using p12) fun y hy => ?_
    have h1 := h y (List.mem_range.mp hy)
    simp [i, h1]
  generalize ((List.range (2 ^ d)).map fun y => cs.getD (app A y) 0).map D.int = ys at *
  simp [xk13, lc, -fLc_eq]
theorem t14 (hA : A.length = d) (hd : d ≤ 12) (hlt : ∀ y, app A y < cs.length) : xk14 [.v (.scr ns), .v (.ref 0), s2, s3, s4, s5, s6, s7, s8, .v (.tup (nl A)), s10, .v (.tup (nl A)), s12, .v (.tup (cs.map D.int)), .v (.lst (((List.range (2 ^ d)).map fun y => cs.getD (app A y) 0).map D.int)), s15, s16, s17, s18, s19, s20, s21, s22, s23, s24, s25, s26, s27] S = .nx [.v (.scr ns), .v (.ref 0), s2, s3, s4, s5, s6, s7, s8, .v (.tup (nl A)), s10, .v (.tup (nl A)), s12, .v (.tup (cs.map D.int)), .v (.lst (((List.range (2 ^ d)).map fun y => cs.getD (app A y) 0).map D.int)), s15, s16, s17, s18, s19, s20, s21, s22, s23, s24, s25, s26, s27] S := by
  have im := images_ok S A (by omega) (.tup (nl A)) (.inl rfl)
  rw [spl_app, hA] at im
  have p12 : 2 ^ d ≤ 100000 := Nat.le_trans (Nat.pow_le_pow_right (by decide) hd) (by decide : 2 ^ 12 ≤ 100000)
  have lc : fLc (itL (eCall m__law_images [] (aCons (eV 9) aNil))) (gN 26) cYes (eOp fIx (eV 13) (eV 26)) [26] [.v (.scr ns), .v (.ref 0), s2, s3, s4, s5, s6, s7, s8, .v (.tup (nl A)), s10, .v (.tup (nl A)), s12, .v (.tup (cs.map D.int)), .v (.lst (((List.range (2 ^ d)).map fun y => cs.getD (app A y) 0).map D.int)), s15, s16, s17, s18, s19, s20, s21, s22, s23, s24, s25, s26, s27] S = .ok (.lst (((List.range (2 ^ d)).map fun y => cs.getD (app A y) 0).map D.int)) S := by
    rw [List.map_map]
    refine flc_of (fun y => nd (app A y)) _ (List.range (2 ^ d)) (by
      rw [show List.map (fun y => nd (app A y)) (List.range (2 ^ d)) = nl (List.map (app A) (List.range (2 ^ d))) from by simp [nl, Function.comp_def]]
      simp [im]) (by simpa using p12) fun y hy => ?_
    have at_ := atI_il (xs := cs) (hlt y)
    simp [at_]
  have e1 := fNe_tup S A A
  have e2 := fNe_lstI S ((List.range (2 ^ d)).map fun y => cs.getD (app A y) 0) ((List.range (2 ^ d)).map fun y => cs.getD (app A y) 0)
  rw [decide_eq_true rfl, Bool.not_true] at e1 e2
  generalize ((List.range (2 ^ d)).map fun y => cs.getD (app A y) 0).map D.int = ys at *
  generalize nl A = zs at *
  simp [xk14, lc, e1, e2, -fLc_eq]
theorem t15 (hz : A.length ≤ 12) (h : Txt.count T "=" = (((A.filter fun r => decide (0 < r)).length : Nat) : Int)) : xk15 [.v (.scr ns), .v (.ref 0), s2, s3, s4, s5, s6, s7, s8, .v (.tup (nl A)), .v (.str T), s11, s12, s13, s14, s15, s16, s17, s18, s19, s20, s21, s22, s23, s24, s25, s26, s27] S = .nx [.v (.scr ns), .v (.ref 0), s2, s3, s4, s5, s6, s7, s8, .v (.tup (nl A)), .v (.str T), s11, s12, s13, s14, s15, s16, s17, s18, s19, s20, s21, s22, s23, s24, s25, s26, s27] S := by
  have lc : fLc (itL (eV 9)) (gN 27) (cB (eOp iGt (eV 27) (eC (.int 0)))) (eV 27) [27] [.v (.scr ns), .v (.ref 0), s2, s3, s4, s5, s6, s7, s8, .v (.tup (nl A)), .v (.str T), s11, s12, s13, s14, s15, s16, s17, s18, s19, s20, s21, s22, s23, s24, s25, s26, s27] S = .ok (.lst (nl ((A.filter fun r => decide (0 < r)).map fun r => r))) S := by
    refine flc_nlp (fun r => decide (0 < r)) (fun r => r) A (by simp [nl]) (by omega) fun r hr => ⟨?_, fun _ => by simp⟩
    have e0 : decide ((0 : Int) < (r : Int)) = decide (0 < r) := decide_eq_decide.mpr (by omega)
    simp [e0]
  rw [List.map_id'] at lc
  have ll : ((nl (A.filter fun r => decide (0 < r))).length : Int) = Txt.count T "=" := by
    rw [h, nl, List.length_map]
  generalize nl (A.filter fun r => decide (0 < r)) = ys at *
  simp [xk15, lc, ll, -fLc_eq]
end
end K68
namespace K68
open PySem L2 Mm Fb Gf
section
variable {ns : List Int} {s2 s3 s4 s5 s6 s7 s8 s9 s10 s11 s12 s13 s14 s15 s16 s17 s18 s19 s20 s21 s22 s23 s24 s25 s26 s27 : Sl} {S S1 R : Sto} {b : Cell} {l : List (Str × Nat)} {x y z d v n : Nat} {A od : List Nat} {T : Str}
noncomputable def bk5 : MS := sSeq (sAsg (eIf (cB (eOp iLt (eLenA 5) (eC (.int 2)))) (eCall m__law_take [] (aCons (eV 1) (aCons (eOp dAdd (eV 4) (eC (.int 1))) aNil))) (eV 4)) (gN 7)) (sSeq (sApp 5 (eTup (aCons (eV 6) (aCons (eV 7) aNil)))) (sAug 4 (fun i j => i - j) (eV 7)))
theorem side_turn {u : Str} {lf : Nat} (hb : Bx b) (hl : l.length < 3) (hf : lf ≤ 12) : ∃ (b' : Cell) (c : Nat), bk5 [.v (.scr ns), .v (.ref 0), s2, s3, .v (nd lf), .o (.lst (l.map dS)), .v (.str u), s7, s8, s9, s10, s11, s12, s13, s14, s15, s16, s17, s18, s19, s20, s21, s22, s23, s24, s25, s26, s27] (b :: R) = .nx [.v (.scr ns), .v (.ref 0), s2, s3, .v (nd (lf - c)), .o (.lst ((l ++ [(u, c)]).map dS)), .v (.str u), .v (nd c), s8, s9, s10, s11, s12, s13, s14, s15, s16, s17, s18, s19, s20, s21, s22, s23, s24, s25, s26, s27] (b' :: R) ∧ Bx b' ∧ c ≤ lf := by
  have z2 := szB_of (n := 2) (by omega)
  have zl := szB_of (n := l.length + 1) (by omega)
  have ap : ∀ c : Nat, l.map dS ++ [.tup [.str u, nd c]] = (l ++ [(u, c)]).map dS := fun c => by rw [List.map_append]; rfl
  have sb : ∀ c : Nat, c ≤ lf → ((lf : Int) - (c : Int)) = ((lf - c : Nat) : Int) := fun c h => by omega
  by_cases h2 : l.length < 2
  · obtain ⟨b1, r, t, hb1, hr⟩ := takeKR (R := R) hb ((lf : Int) + 1) (lf + 1) (by omega) (by omega) (by omega)
    have e2 : decide ((l.length : Int) < 2) = true := decide_eq_true (by omega)
    refine ⟨b1, r, ?_, hb1, by omega⟩
    have ap := ap r
    have sb := sb r (by omega)
    generalize (l ++ [(u, r)]).map dS = Y at *
    generalize hY : l.map dS = Y0 at *
    have ly : Y0.length = l.length := by rw [← hY]; simp
    rw [← ly] at zl
    have e2 : decide ((Y0.length : Int) < 2) = true := by rw [ly]; exact e2
    generalize lf - r = Q at *
    generalize b1 :: R = S1 at *
    generalize b :: R = S0 at *
    simp [bk5, e2, t, z2, zl, ap, sb]
  · have e2 : decide ((l.length : Int) < 2) = false := decide_eq_false (by omega)
    refine ⟨b, lf, ?_, hb, Nat.le_refl _⟩
    have ap := ap lf
    have sb := sb lf (Nat.le_refl _)
    generalize (l ++ [(u, lf)]).map dS = Y at *
    generalize hY : l.map dS = Y0 at *
    have ly : Y0.length = l.length := by rw [← hY]; simp
    rw [← ly] at zl
    have e2 : decide ((Y0.length : Int) < 2) = false := by rw [ly]; exact e2
    generalize lf - lf = Q at *
    generalize b :: R = S0 at *
    simp [bk5, e2, z2, zl, ap, sb]
theorem sides_go (ns : List Int) (R : Sto) {s2 s3 s8 s9 s10 s11 s12 s13 s14 s15 s16 s17 s18 s19 s20 s21 s22 s23 s24 s25 s26 s27 : Sl} : ∀ (us : List Str) {b : Cell} (l : List (Str × Nat)) (lf : Nat) (s6 s7 : Sl), Bx b → l.length + us.length ≤ 3 → lf ≤ 12 → ∃ (b' : Cell) (l1 : List (Str × Nat)) (lf' : Nat) (t6 t7 : Sl), forL (gN 6) bk5 (us.map D.str) [.v (.scr ns), .v (.ref 0), s2, s3, .v (nd lf), .o (.lst (l.map dS)), s6, s7, s8, s9, s10, s11, s12, s13, s14, s15, s16, s17, s18, s19, s20, s21, s22, s23, s24, s25, s26, s27] (b :: R) = .nx [.v (.scr ns), .v (.ref 0), s2, s3, .v (nd lf'), .o (.lst ((l ++ l1).map dS)), t6, t7, s8, s9, s10, s11, s12, s13, s14, s15, s16, s17, s18, s19, s20, s21, s22, s23, s24, s25, s26, s27] (b' :: R) ∧ Bx b' ∧ nms l1 = us ∧ (l1.map (·.2)).sum + lf' = lf
  | [], b, l, lf, s6, s7, hb, _, _ => ⟨b, [], lf, s6, s7, by simp [forL], hb, rfl, by simp⟩
  | u :: us, b, l, lf, s6, s7, hb, hl, hf => by
    rw [List.length_cons] at hl
    obtain ⟨b1, c, e1, hb1, hc⟩ := side_turn (ns := ns) (R := R) (s2 := s2) (s3 := s3) (s7 := s7) (s8 := s8) (s9 := s9) (s10 := s10) (s11 := s11) (s12 := s12) (s13 := s13) (s14 := s14) (s15 := s15) (s16 := s16) (s17 := s17) (s18 := s18) (s19 := s19) (s20 := s20) (s21 := s21) (s22 := s22) (s23 := s23) (s24 := s24) (s25 := s25) (s26 := s26) (s27 := s27) (l := l) (u := u) (lf := lf) hb (by omega) hf
    obtain ⟨b2, l1, lf', t6, t7, e2, hb2, n2, q2⟩ := sides_go ns R us (l ++ [(u, c)]) (lf - c) (.v (.str u)) (.v (nd c)) hb1 (by rw [List.length_append]; simp; omega) (by omega)
    rw [List.append_assoc] at e2
    refine ⟨b2, (u, c) :: l1, lf', t6, t7, (forL_nx rfl e1).trans e2, hb2, ?_, ?_⟩
    · unfold nms at n2 ⊢
      rw [List.map_cons, n2]
    · rw [List.map_cons, List.sum_cons]
      omega
theorem t5 {lf : Nat} (hb : Bx b) (hf : lf ≤ 7) : ∃ (b' : Cell) (l1 : List (Str × Nat)) (lf' : Nat) (t6 t7 : Sl), xk5 [.v (.scr ns), .v (.ref 0), s2, s3, .v (nd lf), .o (.lst (([] : List (Str × Nat)).map dS)), s6, s7, s8, s9, s10, s11, s12, s13, s14, s15, s16, s17, s18, s19, s20, s21, s22, s23, s24, s25, s26, s27] (b :: R) = .nx [.v (.scr ns), .v (.ref 0), s2, s3, .v (nd lf'), .o (.lst (l1.map dS)), t6, t7, s8, s9, s10, s11, s12, s13, s14, s15, s16, s17, s18, s19, s20, s21, s22, s23, s24, s25, s26, s27] (b' :: R) ∧ Bx b' ∧ Ld l1 ∧ (l1.map (·.2)).sum ≤ lf := by
  obtain ⟨b1, us, e1, hb1, p1⟩ := sidesP (R := R) nm3 (by decide) hb
  have l3 := p1.length_eq
  obtain ⟨b2, l1, lf', t6, t7, e2, hb2, n2, q2⟩ := sides_go ns R (s2 := s2) (s3 := s3) (s8 := s8) (s9 := s9) (s10 := s10) (s11 := s11) (s12 := s12) (s13 := s13) (s14 := s14) (s15 := s15) (s16 := s16) (s17 := s17) (s18 := s18) (s19 := s19) (s20 := s20) (s21 := s21) (s22 := s22) (s23 := s23) (s24 := s24) (s25 := s25) (s26 := s26) (s27 := s27) us [] lf s6 s7 hb1 (by rw [l3]; decide) (by omega)
  refine ⟨b2, l1, lf', t6, t7, ?_, hb2, ⟨?_, by rw [n2]; exact p1, by omega⟩, by omega⟩
  · have it : (itL (eCall m__law_shuffled [] (aCons (eV 1) (aCons (mFrz (fLst (aCons (eC (.str "row")) (aCons (eC (.str "col")) (aCons (eC (.str "deep")) aNil))))) aNil)))) [.v (.scr ns), .v (.ref 0), s2, s3, .v (nd lf), .o (.lst (([] : List (Str × Nat)).map dS)), s6, s7, s8, s9, s10, s11, s12, s13, s14, s15, s16, s17, s18, s19, s20, s21, s22, s23, s24, s25, s26, s27] (b :: R) = .ok (us.map D.str) (b1 :: R) := by
      have z3 := szB_of (n := 3) (by omega)
      have e1 : m__law_shuffled [.ref 0, .lst [.str "row", .str "col", .str "deep"]] (b :: R) = .ok (.own (.lst (us.map D.str))) (b1 :: R) := e1
      generalize us.map D.str = Y at *
      generalize b1 :: R = S1 at *
      generalize b :: R = S0 at *
      simp [e1, z3]
    show sFor _ (gN 6) bk5 _ _ = _
    rw [sFor_eq, it, out_ok']
    exact e2
  · have e : (nms l1).length = 3 := by rw [n2, l3]; rfl
    unfold nms at e
    rwa [List.length_map] at e
theorem lk3 : ∀ u ∈ nm3, lookK (kv3.map kvD) (.inr u) = some (.str (f3 u)) := by
  intro u hu
  have f : f3 "row" = "x" ∧ f3 "col" = "yy" ∧ f3 "deep" = "zzzzzz" := by refine ⟨?_, ?_, ?_⟩ <;> decide +kernel
  simp only [nm3, List.mem_cons, List.not_mem_nil, or_false] at hu
  rcases hu with rfl | rfl | rfl
  · rw [f.1]; rfl
  · rw [f.2.1]; rfl
  · rw [f.2.2]; rfl
theorem t16 (h : Ld l) : xk16 [.v (.scr ns), .v (.ref 0), s2, s3, s4, .v (.lst (l.map dS)), s6, s7, s8, s9, s10, s11, s12, s13, s14, .v (.dic (kv3.map kvD)), s16, s17, s18, s19, s20, s21, s22, s23, s24, s25, s26, s27] S = .nx [.v (.scr ns), .v (.ref 0), s2, s3, s4, .v (.lst (l.map dS)), s6, s7, s8, s9, s10, s11, s12, s13, s14, .v (.dic (kv3.map kvD)), .v (.lst ((mpN f3 l).map dS)), s17, s18, s19, s20, s21, s22, s23, s24, s25, s26, s27] S := by
  have z2 := szB_of (n := 2) (by omega)
  have lc : fLc (itL (eV 5)) (gT (gNC (gN 6) (gNC (gN 7) gN0))) cYes (eTup (aCons (eDGetA 15 (eV 6)) (aCons (eV 7) aNil))) [6, 7] [.v (.scr ns), .v (.ref 0), s2, s3, s4, .v (.lst (l.map dS)), s6, s7, s8, s9, s10, s11, s12, s13, s14, .v (.dic (kv3.map kvD)), s16, s17, s18, s19, s20, s21, s22, s23, s24, s25, s26, s27] S = .ok (.lst ((mpN f3 l).map dS)) S := by
    unfold mpN
    rw [List.map_map]
    refine flc_ofG dS (fun p => dS (f3 p.1, p.2)) l (by simp) (by have := h.len; omega) fun p hp => ?_
    have k := lk3 p.1 (h.pm.mem_iff.mp (List.mem_map.mpr ⟨p, hp, rfl⟩))
    have g1 : gT (gNC (gN 6) (gNC (gN 7) gN0)) (dS p) (wipeE [.v (.scr ns), .v (.ref 0), s2, s3, s4, .v (.lst (l.map dS)), s6, s7, s8, s9, s10, s11, s12, s13, s14, .v (.dic (kv3.map kvD)), s16, s17, s18, s19, s20, s21, s22, s23, s24, s25, s26, s27] [6, 7]) = some [.v (.scr ns), .v (.ref 0), hideS s2, hideS s3, hideS s4, .v (.lst (l.map dS)), .v (.str p.1), .v (nd p.2), hideS s8, hideS s9, hideS s10, hideS s11, hideS s12, hideS s13, hideS s14, .v (.dic (kv3.map kvD)), hideS s16, hideS s17, hideS s18, hideS s19, hideS s20, hideS s21, hideS s22, hideS s23, hideS s24, hideS s25, hideS s26, hideS s27] := rfl
    refine ⟨_, g1, ?_⟩
    generalize kv3.map kvD = KV at *
    simp [k, z2, hasA, dicA, dS]
  generalize (mpN f3 l).map dS = Y at *
  generalize kv3.map kvD = KV at *
  simp [xk16, lc, -fLc_eq]
theorem t17 {a q r : D} (h : m_spread_text [a, q, nd x, nd y] S = .ok (.val r) S) : xk17 [.v (.scr ns), .v (.ref 0), .v (.tup [nd x, nd y, nd z]), s3, s4, s5, s6, s7, s8, .v a, s10, s11, s12, s13, s14, s15, .v q, s17, s18, s19, s20, s21, s22, s23, s24, s25, s26, s27] S = .nx [.v (.scr ns), .v (.ref 0), .v (.tup [nd x, nd y, nd z]), s3, s4, s5, s6, s7, s8, .v a, s10, s11, s12, s13, s14, s15, .v q, .v r, s18, s19, s20, s21, s22, s23, s24, s25, s26, s27] S := by
  simp [xk17, h]
theorem tR {m : MS} {T1 T2 T3 : Str} (hf : fitB kv3 T = true) (r1 : Txt.replace T "row" "x" = T1) (r2 : Txt.replace T1 "col" "yy" = T2) (r3 : Txt.replace T2 "deep" "zzzzzz" = T3) : sReplD 6 10 kv3 m [.v (.scr ns), .v (.ref 0), s2, s3, s4, s5, s6, s7, s8, s9, .v (.str T), s11, s12, s13, s14, s15, s16, s17, s18, s19, s20, s21, s22, s23, s24, s25, s26, s27] S = m [.v (.scr ns), .v (.ref 0), s2, s3, s4, s5, .v (.str "deep"), s7, s8, s9, .v (.str T3), s11, s12, s13, s14, s15, s16, s17, s18, s19, s20, s21, s22, s23, s24, s25, s26, s27] S := by
  subst r1 r2 r3
  show (if fitB kv3 T = true then m (goE 6 10 kv3 T _) S else .stuck) = _
  rw [if_pos hf]
  rfl
theorem t18 (h : PyData.strOk T = true) : xk18 [.v (.scr ns), .v (.ref 0), s2, s3, s4, s5, s6, s7, s8, s9, .v (.str T), s11, s12, s13, s14, s15, s16, .v (.str T), s18, s19, s20, s21, s22, s23, s24, s25, s26, s27] S = .nx [.v (.scr ns), .v (.ref 0), s2, s3, s4, s5, s6, s7, s8, s9, .v (.str T), s11, s12, s13, s14, s15, s16, .v (.str T), s18, s19, s20, s21, s22, s23, s24, s25, s26, s27] S := by
  have e := fNe_str S h h
  rw [decide_eq_true rfl, Bool.not_true] at e
  simp [xk18, e]
theorem t19 (h : m__law_shuffled [.ref 0, .lst (nl (List.range 3))] S = .ok (.own (.lst (nl od))) S1) : xk19 [.v (.scr ns), .v (.ref 0), s2, s3, s4, s5, s6, s7, s8, s9, s10, s11, s12, s13, s14, s15, s16, s17, s18, s19, s20, s21, s22, s23, s24, s25, s26, s27] S = .nx [.v (.scr ns), .v (.ref 0), s2, s3, s4, s5, s6, s7, s8, s9, s10, s11, s12, s13, s14, s15, s16, s17, .v (.lst (nl od)), s19, s20, s21, s22, s23, s24, s25, s26, s27] S1 := by
  have e : nl (List.range 3) = [nd 0, nd 1, nd 2] := rfl
  have r3 : rngD 0 3 = [nd 0, nd 1, nd 2] := rfl
  have g3 : rgS 0 3 = true := by decide
  rw [e] at h
  generalize nl od = Y at *
  simp [xk19, g3, r3, h]
theorem t20 {a q r : D} (h : m_spread_text [a, q, nd x, nd y] S = .ok (.val r) S) : xk20 [.v (.scr ns), .v (.ref 0), .v (.tup [nd x, nd y, nd z]), s3, s4, .v q, s6, s7, s8, .v a, s10, s11, s12, s13, s14, s15, s16, s17, s18, s19, s20, s21, s22, s23, s24, s25, s26, s27] S = .nx [.v (.scr ns), .v (.ref 0), .v (.tup [nd x, nd y, nd z]), s3, s4, .v q, s6, s7, s8, .v a, .v r, s11, s12, s13, s14, s15, s16, s17, s18, s19, s20, s21, s22, s23, s24, s25, s26, s27] S := by
  have pk : pick [1, 0] [nd y, nd x] = [nd x, nd y] := rfl
  simp [xk20, h, pk]
theorem at_l {j : Nat} (hj : j < l.length) : atI (l.map dS) (j : Int) = some (dS (sdA l j)) := by
  rw [Mm.atI_nat, List.getElem?_map, List.getElem?_eq_getElem hj]
  unfold sdA
  rw [List.getD_eq_getElem?_getD, List.getElem?_eq_getElem hj]
  rfl
theorem t21 (hz : od.length ≤ 100) (h : ∀ j ∈ od, j < l.length) : xk21 [.v (.scr ns), .v (.ref 0), s2, s3, s4, .v (.lst (l.map dS)), s6, s7, s8, s9, s10, s11, s12, s13, s14, s15, s16, s17, .v (.lst (nl od)), s19, s20, s21, s22, s23, s24, s25, s26, s27] S = .nx [.v (.scr ns), .v (.ref 0), s2, s3, s4, .v (.lst (l.map dS)), s6, s7, s8, s9, s10, s11, s12, s13, s14, s15, s16, s17, .v (.lst (nl od)), .v (.lst ((turnL l od).map dS)), s20, s21, s22, s23, s24, s25, s26, s27] S := by
  have lc : fLc (itL (eV 18)) (gN 22) cYes (eIxA 5 (eV 22)) [22] [.v (.scr ns), .v (.ref 0), s2, s3, s4, .v (.lst (l.map dS)), s6, s7, s8, s9, s10, s11, s12, s13, s14, s15, s16, s17, .v (.lst (nl od)), s19, s20, s21, s22, s23, s24, s25, s26, s27] S = .ok (.lst ((turnL l od).map dS)) S := by
    unfold turnL
    rw [List.map_map]
    refine flc_of (fun j : Nat => nd j) (fun j => dS (sdA l j)) od (by simp [nl]) (by omega) fun j hj => ?_
    have at_ := at_l (h j hj)
    generalize l.map dS = Y at *
    simp [at_]
  generalize (turnL l od).map dS = Y at *
  simp [xk21, lc, -fLc_eq]
theorem t22 {a q r : D} (h : m_read_spread [a, q, nd x, nd y] S = .ok (.val r) S1) : xk22 [.v (.scr ns), .v (.ref 0), .v (.tup [nd x, nd y, nd z]), s3, s4, s5, s6, s7, s8, s9, .v a, s11, s12, s13, s14, s15, s16, s17, s18, .v q, s20, s21, s22, s23, s24, s25, s26, s27] S = .nx [.v (.scr ns), .v (.ref 0), .v (.tup [nd x, nd y, nd z]), s3, s4, s5, s6, s7, s8, s9, .v a, s11, s12, s13, s14, s15, .v r, s17, s18, .v q, s20, s21, s22, s23, s24, s25, s26, s27] S1 := by
  simp [xk22, h]
theorem t23  : xk23 [.v (.scr ns), .v (.ref 0), s2, s3, s4, s5, s6, s7, s8, s9, s10, s11, s12, s13, s14, s15, s16, s17, s18, s19, s20, s21, s22, s23, s24, s25, s26, s27] S = .nx [.v (.scr ns), .v (.ref 0), s2, s3, s4, s5, s6, s7, s8, s9, s10, s11, s12, s13, s14, s15, s16, s17, s18, s19, .v (.lst []), s21, s22, s23, s24, s25, s26, s27] S := by
  have z0 := szB_of (n := 0) (by omega)
  simp [xk23, z0]
theorem t24 (hz : l.length ≤ 100) : xk24 [.v (.scr ns), .v (.ref 0), s2, s3, s4, .v (.lst (l.map dS)), s6, s7, s8, s9, s10, s11, s12, s13, s14, s15, s16, s17, s18, s19, s20, s21, s22, s23, s24, s25, s26, s27] S = .nx [.v (.scr ns), .v (.ref 0), s2, s3, s4, .v (.lst (l.map dS)), s6, s7, s8, s9, s10, s11, s12, s13, s14, s15, s16, s17, s18, s19, s20, .v (.lst ((List.range 3).map fun j => nd (stA l j))), s22, s23, s24, s25, s26, s27] S := by
  have lc : fLc (itR1 (aCons (eC (.int 3)) aNil)) (gN 22) cYes (eCB fSum (aCons (mFrz (fLc (itL (mFrz (fSl (eV 5) oNone (oSome (eV 22))))) (gT (gNC (gN 6) (gNC (gN 7) gN0))) cYes (eV 7) [6, 7])) aNil)) [22] [.v (.scr ns), .v (.ref 0), s2, s3, s4, .v (.lst (l.map dS)), s6, s7, s8, s9, s10, s11, s12, s13, s14, s15, s16, s17, s18, s19, s20, s21, s22, s23, s24, s25, s26, s27] S = .ok (.lst ((List.range 3).map fun j => nd (stA l j))) S := by
    refine flc_of (fun j : Nat => nd j) (fun j => nd (stA l j)) (List.range 3) (itR1_nat rfl (by omega)) (by simp) fun j hj => ?_
    show eCB fSum _ [.v (.scr ns), .v (.ref 0), hideS s2, hideS s3, hideS s4, .v (.lst (l.map dS)), hideS s6, hideS s7, hideS s8, hideS s9, hideS s10, hideS s11, hideS s12, hideS s13, hideS s14, hideS s15, hideS s16, hideS s17, hideS s18, hideS s19, hideS s20, hideS s21, .v (nd j), hideS s23, hideS s24, hideS s25, hideS s26, hideS s27] S = _
    have ct : cutD (l.map dS) none (some (j : Int)) = (l.take j).map dS := by rw [cutD_take, List.map_take]
    have it : itL (mFrz (fSl (eV 5) oNone (oSome (eV 22)))) [.v (.scr ns), .v (.ref 0), hideS s2, hideS s3, hideS s4, .v (.lst (l.map dS)), hideS s6, hideS s7, hideS s8, hideS s9, hideS s10, hideS s11, hideS s12, hideS s13, hideS s14, hideS s15, hideS s16, hideS s17, hideS s18, hideS s19, hideS s20, hideS s21, .v (nd j), hideS s23, hideS s24, hideS s25, hideS s26, hideS s27] S = .ok ((l.take j).map dS) S := by
      generalize l.map dS = Y at *
      generalize (l.take j).map dS = Z at *
      simp [ct]
    have lc : fLc (itL (mFrz (fSl (eV 5) oNone (oSome (eV 22))))) (gT (gNC (gN 6) (gNC (gN 7) gN0))) cYes (eV 7) [6, 7] [.v (.scr ns), .v (.ref 0), hideS s2, hideS s3, hideS s4, .v (.lst (l.map dS)), hideS s6, hideS s7, hideS s8, hideS s9, hideS s10, hideS s11, hideS s12, hideS s13, hideS s14, hideS s15, hideS s16, hideS s17, hideS s18, hideS s19, hideS s20, hideS s21, .v (nd j), hideS s23, hideS s24, hideS s25, hideS s26, hideS s27] S = .ok (.lst (((l.take j).map fun p => (p.2 : Int)).map D.int)) S := by
      rw [List.map_map]
      exact flc_ofG dS (fun p => nd p.2) (l.take j) it (by rw [List.length_take]; omega) fun p hp => ⟨_, rfl, rfl⟩
    have sm := fSum_l S ((l.take j).map fun p => (p.2 : Int)) (by rw [List.length_map, List.length_take]; omega)
    rw [sum_int] at sm
    unfold stA
    generalize ((l.take j).map fun p => (p.2 : Int)).map D.int = ys at *
    generalize ((l.take j).map (·.2)).sum = q at *
    simp [lc, sm, -fLc_eq]
  generalize ((List.range 3).map fun j => nd (stA l j)) = ys at *
  simp [xk24, lc, -fLc_eq]
noncomputable def bk25 : MS := sFrz 5 (sAsg (eOp dAdd (eV 20) (mFrz (fLc (itR1 (aCons (eOp fIx (eIxA 5 (eV 22)) (eC (.int 1))) aNil)) (gN 25) cYes (eOp dAdd (eOp fIx (eV 21) (eV 22)) (eV 25)) [25]))) (gN 20))
theorem mov_turn {M : List Nat} {j : Nat} (hj : j < 3) (hl : l.length = 3) (hc : (sdA l j).2 ≤ 12) (hM : M.length ≤ 50) : bk25 [.v (.scr ns), .v (.ref 0), s2, s3, s4, .v (.lst (l.map dS)), s6, s7, s8, s9, s10, s11, s12, s13, s14, s15, s16, s17, s18, s19, .v (.lst (nl M)), .v (.lst ((List.range 3).map fun j => nd (stA l j))), .v (nd j), s23, s24, s25, s26, s27] S = .nx [.v (.scr ns), .v (.ref 0), s2, s3, s4, .v (.lst (l.map dS)), s6, s7, s8, s9, s10, s11, s12, s13, s14, s15, s16, s17, s18, s19, .v (.lst (nl (M ++ (List.range (sdA l j).2).map (stA l j + ·)))), .v (.lst ((List.range 3).map fun j => nd (stA l j))), .v (nd j), s23, s24, s25, s26, s27] S := by
  have at1 := at_l (l := l) (j := j) (by omega)
  have at2 : atI ((List.range 3).map fun j => nd (stA l j)) (j : Int) = some (nd (stA l j)) := by
    rw [Mm.atI_nat, List.getElem?_map, List.getElem?_range hj]
    rfl
  have d1 : fIx S (dS (sdA l j)) (.int 1) = some (nd (sdA l j).2) := rfl
  have lc : fLc (itR1 (aCons (eOp fIx (eIxA 5 (eV 22)) (eC (.int 1))) aNil)) (gN 25) cYes (eOp dAdd (eOp fIx (eV 21) (eV 22)) (eV 25)) [25] [.v (.scr ns), .v (.ref 0), s2, s3, s4, .v (.lst (l.map dS)), s6, s7, s8, s9, s10, s11, s12, s13, s14, s15, s16, s17, s18, s19, .v (.lst (nl M)), .v (.lst ((List.range 3).map fun j => nd (stA l j))), .v (nd j), s23, s24, s25, s26, s27] S = .ok (.lst (nl ((List.range (sdA l j).2).map (stA l j + ·)))) S := by
    refine flc_nl (fun k => stA l j + k) (List.range (sdA l j).2) (itR1_nat (n := (sdA l j).2) ?_ (by omega)) (by rw [List.length_range]; omega) fun k hk => ?_
    · generalize l.map dS = Y at *
      generalize sdA l j = q at *
      generalize ((List.range 3).map fun j => nd (stA l j)) = Z at *
      simp [at1, d1]
    · generalize l.map dS = Y at *
      generalize ((List.range 3).map fun j => nd (stA l j)) = Z at *
      generalize stA l j = q at *
      simp [at2]
  have sz := szB_of (n := M.length + (sdA l j).2) (by omega)
  have lq : (nl ((List.range (sdA l j).2).map (stA l j + ·))).length = (sdA l j).2 := by simp
  have lM : (nl M).length = M.length := by simp
  have ap : nl (M ++ (List.range (sdA l j).2).map (stA l j + ·)) = nl M ++ nl ((List.range (sdA l j).2).map (stA l j + ·)) := by simp [nl]
  rw [ap]
  rw [← lM, ← lq] at sz
  generalize nl ((List.range (sdA l j).2).map (stA l j + ·)) = ys at *
  generalize nl M = zs at *
  generalize l.map dS = Y at *
  generalize ((List.range 3).map fun j => nd (stA l j)) = Z at *
  simp [bk25, lc, sz, -fLc_eq]
theorem mov_go (ns : List Int) (S : Sto) {s2 s3 s4 s6 s7 s8 s9 s10 s11 s12 s13 s14 s15 s16 s17 s18 s19 s23 s24 s25 s26 s27 : Sl} (hl : l.length = 3) (hc : ∀ j, (sdA l j).2 ≤ 12) : ∀ (os M : List Nat) (s22 : Sl), (∀ j ∈ os, j < 3) → M.length + 12 * os.length ≤ 50 → ∃ t22 : Sl, forL (gN 22) bk25 (nl os) [.v (.scr ns), .v (.ref 0), s2, s3, s4, .v (.lst (l.map dS)), s6, s7, s8, s9, s10, s11, s12, s13, s14, s15, s16, s17, s18, s19, .v (.lst (nl M)), .v (.lst ((List.range 3).map fun j => nd (stA l j))), s22, s23, s24, s25, s26, s27] S = .nx [.v (.scr ns), .v (.ref 0), s2, s3, s4, .v (.lst (l.map dS)), s6, s7, s8, s9, s10, s11, s12, s13, s14, s15, s16, s17, s18, s19, .v (.lst (nl (M ++ movL l os))), .v (.lst ((List.range 3).map fun j => nd (stA l j))), t22, s23, s24, s25, s26, s27] S
  | [], M, s22, _, _ => ⟨s22, by simp [forL]⟩
  | j :: os, M, s22, hj, hz => by
    rw [List.length_cons] at hz
    have cj := hc j
    have e1 := mov_turn (ns := ns) (S := S) (s2 := s2) (s3 := s3) (s4 := s4) (s6 := s6) (s7 := s7) (s8 := s8) (s9 := s9) (s10 := s10) (s11 := s11) (s12 := s12) (s13 := s13) (s14 := s14) (s15 := s15) (s16 := s16) (s17 := s17) (s18 := s18) (s19 := s19) (s23 := s23) (s24 := s24) (s25 := s25) (s26 := s26) (s27 := s27) (l := l) (M := M) (hj j List.mem_cons_self) hl cj (by omega)
    obtain ⟨t22, e2⟩ := mov_go ns S (s2 := s2) (s3 := s3) (s4 := s4) (s6 := s6) (s7 := s7) (s8 := s8) (s9 := s9) (s10 := s10) (s11 := s11) (s12 := s12) (s13 := s13) (s14 := s14) (s15 := s15) (s16 := s16) (s17 := s17) (s18 := s18) (s19 := s19) (s23 := s23) (s24 := s24) (s25 := s25) (s26 := s26) (s27 := s27) hl hc os (M ++ (List.range (sdA l j).2).map (stA l j + ·)) (.v (nd j)) (fun k hk => hj k (List.mem_cons_of_mem _ hk)) (by rw [List.length_append, List.length_map, List.length_range]; omega)
    rw [List.append_assoc] at e2
    exact ⟨t22, (forL_nx rfl e1).trans e2⟩
theorem t25 (hl : l.length = 3) (hc : ∀ j, (sdA l j).2 ≤ 12) (hj : ∀ j ∈ od, j < 3) (hz : od.length ≤ 3) : ∃ t22 : Sl, xk25 [.v (.scr ns), .v (.ref 0), s2, s3, s4, .v (.lst (l.map dS)), s6, s7, s8, s9, s10, s11, s12, s13, s14, s15, s16, s17, .v (.lst (nl od)), s19, .v (.lst (nl [])), .v (.lst ((List.range 3).map fun j => nd (stA l j))), s22, s23, s24, s25, s26, s27] S = .nx [.v (.scr ns), .v (.ref 0), s2, s3, s4, .v (.lst (l.map dS)), s6, s7, s8, s9, s10, s11, s12, s13, s14, s15, s16, s17, .v (.lst (nl od)), s19, .v (.lst (nl (movL l od))), .v (.lst ((List.range 3).map fun j => nd (stA l j))), t22, s23, s24, s25, s26, s27] S := by
  obtain ⟨t22, e⟩ := mov_go ns S (s2 := s2) (s3 := s3) (s4 := s4) (s6 := s6) (s7 := s7) (s8 := s8) (s9 := s9) (s10 := s10) (s11 := s11) (s12 := s12) (s13 := s13) (s14 := s14) (s15 := s15) (s16 := s16) (s17 := s17) (s18 := .v (.lst (nl od))) (s19 := s19) (s23 := s23) (s24 := s24) (s25 := s25) (s26 := s26) (s27 := s27) hl hc od [] s22 hj (by simp; omega)
  refine ⟨t22, ?_⟩
  show sFor (itL (eV 18)) (gN 22) bk25 _ _ = _
  rw [sFor_eq, itL_eq, eV_eq]
  exact e
theorem t26 {M : List Nat} (hv : v ≤ 12) (hM : ∀ i, i < v → i ∈ M) (F : FOk ((List.range v).map fun i => 2 ^ M.idxOf i) v) (hl : M.length ≤ 12) : xk26 [.v (.scr ns), .v (.ref 0), s2, s3, s4, s5, s6, s7, .v (nd v), s9, s10, s11, s12, s13, s14, s15, s16, s17, s18, s19, .v (.lst (nl M)), s21, s22, s23, s24, s25, s26, s27] S = .nx [.v (.scr ns), .v (.ref 0), s2, s3, s4, s5, s6, s7, .v (nd v), s9, s10, s11, s12, s13, s14, s15, s16, s17, s18, s19, .v (.lst (nl M)), s21, s22, .v (fold ((List.range v).map fun i => 2 ^ M.idxOf i) v), s24, s25, s26, s27] S := by
  have lc : fLc (itR1 (aCons (eV 8) aNil)) (gN 22) cYes (eOp iShl (eC (.int 1)) (eIdx (eV 20) (eV 22))) [22] [.v (.scr ns), .v (.ref 0), s2, s3, s4, s5, s6, s7, .v (nd v), s9, s10, s11, s12, s13, s14, s15, s16, s17, s18, s19, .v (.lst (nl M)), s21, s22, s23, s24, s25, s26, s27] S = .ok (.lst (nl ((List.range v).map fun i => 2 ^ M.idxOf i))) S := by
    refine flc_nl (fun i => 2 ^ M.idxOf i) (List.range v) (itR1_nat rfl (by omega)) (by rw [List.length_range]; omega) fun i hi => ?_
    have mi := hM i (List.mem_range.mp hi)
    have ni : (i : Int) ∈ M.map Int.ofNat := List.mem_map.mpr ⟨i, mi, rfl⟩
    have il := List.idxOf_lt_length_of_mem mi
    have pw := powB_nat (i := 1) (by decide) (M.idxOf i) (by omega)
    have ix := idx_nat i M
    have io := intsOf_nl M
    generalize M.idxOf i = q at *
    generalize nl M = Y at *
    generalize M.map Int.ofNat = Z at *
    simp [io, ni, ix, pw]
  have n1 := new_ok S F (.lst (nl ((List.range v).map fun i => 2 ^ M.idxOf i))) (.inr rfl)
  generalize ((List.range v).map fun i => 2 ^ M.idxOf i) = Q at *
  generalize nl Q = Y at *
  simp [xk26, lc, n1, -fLc_eq]
theorem t27 {TT : List Nat} (hA : FOk A v) (hT : FOk TT v) (hl : TT.length = v) : xk27 [.v (.scr ns), .v (.ref 0), s2, s3, s4, s5, s6, s7, .v (nd v), .v (.tup (nl A)), s10, s11, s12, s13, s14, s15, .v (.tup (nl (A.map (app TT)))), s17, s18, s19, s20, s21, s22, .v (fold TT v), s24, s25, s26, s27] S = .rt (.val (.bl true)) S := by
  have n1 := new_ok S hA (.tup (nl A)) (.inl rfl)
  have th := then_ok S hA hT hl
  have rw' := rows_ok S (A.map (app TT)) v
  have fe := fEq_tup S (A.map (app TT)) (A.map (app TT))
  rw [decide_eq_true rfl] at fe
  generalize nl (A.map (app TT)) = Y at *
  generalize nl A = Z at *
  simp [xk27, n1, th, rw', fe]
theorem t25x {m : MS} {Q : Ret → Sto → Prop} (hl : l.length = 3) (hc : ∀ j, (sdA l j).2 ≤ 12) (hj : ∀ j ∈ od, j < 3) (hz : od.length ≤ 3) (h : ∀ t22 : Sl, EX (m [.v (.scr ns), .v (.ref 0), s2, s3, s4, .v (.lst (l.map dS)), s6, s7, s8, s9, s10, s11, s12, s13, s14, s15, s16, s17, .v (.lst (nl od)), s19, .v (.lst (nl (movL l od))), .v (.lst ((List.range 3).map fun j => nd (stA l j))), t22, s23, s24, s25, s26, s27] S) Q) : EX (sSeq xk25 m [.v (.scr ns), .v (.ref 0), s2, s3, s4, .v (.lst (l.map dS)), s6, s7, s8, s9, s10, s11, s12, s13, s14, s15, s16, s17, .v (.lst (nl od)), s19, .v (.lst (nl [])), .v (.lst ((List.range 3).map fun j => nd (stA l j))), s22, s23, s24, s25, s26, s27] S) Q := by
  obtain ⟨t, e⟩ := t25 hl hc hj hz
  rw [seq_of e]
  exact h t
theorem frzO {m : MS} {Y : List D} : sFrz 5 m [.v (.scr ns), .v (.ref 0), s2, s3, s4, .o (.lst Y), s6, s7, s8, s9, s10, s11, s12, s13, s14, s15, s16, s17, s18, s19, s20, s21, s22, s23, s24, s25, s26, s27] S = m [.v (.scr ns), .v (.ref 0), s2, s3, s4, .v (.lst Y), s6, s7, s8, s9, s10, s11, s12, s13, s14, s15, s16, s17, s18, s19, s20, s21, s22, s23, s24, s25, s26, s27] S := rfl
theorem frzV {m : MS} {Y : D} : sFrz 5 m [.v (.scr ns), .v (.ref 0), s2, s3, s4, .v Y, s6, s7, s8, s9, s10, s11, s12, s13, s14, s15, s16, s17, s18, s19, s20, s21, s22, s23, s24, s25, s26, s27] S = m [.v (.scr ns), .v (.ref 0), s2, s3, s4, .v Y, s6, s7, s8, s9, s10, s11, s12, s13, s14, s15, s16, s17, s18, s19, s20, s21, s22, s23, s24, s25, s26, s27] S := rfl
theorem rawT {m : MS} : sRawD 15 kv3 m [.v (.scr ns), .v (.ref 0), s2, s3, s4, s5, s6, s7, s8, s9, s10, s11, s12, s13, s14, s15, s16, s17, s18, s19, s20, s21, s22, s23, s24, s25, s26, s27] S = m [.v (.scr ns), .v (.ref 0), s2, s3, s4, s5, s6, s7, s8, s9, s10, s11, s12, s13, s14, .v (.dic (kv3.map kvD)), s16, s17, s18, s19, s20, s21, s22, s23, s24, s25, s26, s27] S := rfl
end
end K68
namespace K68
open PySem L2 Mm Fb Gf
section
variable {l : List (Str × Nat)} {od : List Nat}
theorem turn_perm (h3 : l.length = 3) (hp : od.Perm [0, 1, 2]) : (turnL l od).Perm l := (hp.map (sdA l)).trans (by
  match l, h3 with
  | [a, b, c], _ => exact List.Perm.refl _)
theorem Ld.turn (h : Ld l) (hp : od.Perm [0, 1, 2]) : Ld (turnL l od) := by
  have p := turn_perm h.len hp
  refine ⟨p.length_eq.trans h.len, (p.map _).trans h.pm, ?_⟩
  rw [(p.map (·.2)).sum_nat]
  exact h.sm
theorem Ld.side (h : Ld l) : sideB l = true := by
  have := side_of h oks.1
  rwa [mpN_id] at this
theorem Ld.cnt (h : Ld l) (j : Nat) : (sdA l j).2 ≤ 12 := by
  unfold sdA
  rw [List.getD_eq_getElem?_getD]
  cases e : l[j]? with
  | none => exact Nat.zero_le _
  | some p =>
    have := mem_le (List.mem_map.mpr ⟨p, List.mem_of_getElem? e, rfl⟩ : p.2 ∈ l.map (·.2))
    have := h.sm
    show p.2 ≤ 12
    omega
theorem trn_fok (h : Ld l) (hp : od.Perm [0, 1, 2]) : FOk (trnT l od) (l.map (·.2)).sum := by
  have m := mov_perm h.len hp
  have ml := m.length_eq
  rw [List.length_range] at ml
  have s7 := h.sm
  refine ⟨by rw [List.length_map, List.length_range]; omega, by omega, fun r hr => ?_⟩
  obtain ⟨i, hi, rfl⟩ := List.mem_map.mp hr
  have := List.idxOf_lt_length_of_mem (m.mem_iff.mpr hi)
  exact Nat.pow_lt_pow_right (by decide) (by omega)
end
theorem pure_law (ns : List Int) (hl : ns.length ≤ 63) (hb : ∀ z ∈ ns, Builtin.Int.intBits z ≤ 1048576) : ∃ S, m_law [.scr ns] [] = .ok (.val (.bl true)) S := by
  rw [m_law_eq]
  refine law_run (k := 26) (c := 0) ns rfl fun b hb => ?_
  obtain ⟨b1, x, y, z, e1, hb1, hx, hy, hz1, hz3⟩ := wide_ok (R := []) hb
  obtain ⟨d, hd⟩ : ∃ d, d = x + y := ⟨_, rfl⟩
  obtain ⟨b2, t, e3, hb2, ht⟩ := takeKR (R := []) hb1 2 2 rfl (by decide) (by decide)
  have i0 : LE ns (List.replicate 26 .no) 0 = [.v (.scr ns), .v (.ref 0), .no, .no, .no, .no, .no, .no, .no, .no, .no, .no, .no, .no, .no, .no, .no, .no, .no, .no, .no, .no, .no, .no, .no, .no, .no, .no] := rfl
  rw [i0]
  rw [seq_of (t1 e1), seq_of (t2 hd), seq_of (t3 e3), seq_of t4]
  obtain ⟨b3, l, lf, u6, u7, e5, hb3, h, hs⟩ := t5 (ns := ns) (R := []) (lf := d - t) (s2 := .v (.tup [nd x, nd y, nd z])) (s3 := .v (nd d)) (s6 := .no) (s7 := .no) (s8 := .no) (s9 := .no) (s10 := .no) (s11 := .no) (s12 := .no) (s13 := .no) (s14 := .no) (s15 := .no) (s16 := .no) (s17 := .no) (s18 := .no) (s19 := .no) (s20 := .no) (s21 := .no) (s22 := .no) (s23 := .no) (s24 := .no) (s25 := .no) (s26 := .no) (s27 := .no) hb2 (by omega)
  have e5 := e5
  rw [show (([] : List (Str × Nat)).map dS) = [] from rfl] at e5
  rw [seq_of e5, frzO]
  obtain ⟨v, hv⟩ : ∃ v, v = (l.map (·.2)).sum := ⟨_, rfl⟩
  have c6 := fun (S : Sto) (s2 s3 s4 s6 s7 s8 s9 s10 s11 s12 s13 s14 s15 s16 s17 s18 s19 s20 s21 s22 s23 s24 s25 s26 s27 : Sl) => t6 (ns := ns) (S := S) (s2 := s2) (s3 := s3) (s4 := s4) (s6 := s6) (s7 := s7) (s8 := s8) (s9 := s9) (s10 := s10) (s11 := s11) (s12 := s12) (s13 := s13) (s14 := s14) (s15 := s15) (s16 := s16) (s17 := s17) (s18 := s18) (s19 := s19) (s20 := s20) (s21 := s21) (s22 := s22) (s23 := s23) (s24 := s24) (s25 := s25) (s26 := s26) (s27 := s27) h.len
  simp only [← hv] at c6
  have v7 : v ≤ d := by omega
  have h3 := h.len
  have hB := h.side
  obtain ⟨b4, A, e7, hb4, hA⟩ := lines_okR (R := []) hb3 (n := d) (w := v) (by omega) v7
  have la := hA.len
  have lt : ∀ r ∈ A, r < 2 ^ (l.map (·.2)).sum := by rw [← hv]; exact hA.lt
  rw [seq_of (c6 ..), seq_of (t7 e7), frzV]
  have sp := fun S => spread_ok (S := S) hB (by omega) A (.tup (nl A)) (.inr rfl) x y (by omega) (by omega) (by omega) lt
  obtain ⟨w1, w2, w3⟩ := written_tx hB (by omega) (bx := x) (ln := y) (by omega) (by omega) (by omega) A (by omega) lt
  have rd := fun S => read_ok hB (by omega) (Nat.le_trans w3.2 (by omega)) w3.1 (bx := x) (ln := y) (by omega) (by omega) S
  simp only [w1] at rd
  have rd : ∀ S, ∃ p q, m_read_spread [.str (tx0 l x y A), .lst (l.map dS), nd x, nd y] S = .ok (.val (.tup (nl (rwsOf l x y (wIt (bws x y) (wdsOf l) A))))) (S ++ [p, q]) := rd
  rw [w2] at rd
  obtain ⟨p1, q1, e9⟩ := rd [b4]
  obtain ⟨R4, hR4⟩ : ∃ R4 : Sto, R4 = [p1, q1, bodyC 3 x y z 0 0, .dic [], .dic []] := ⟨_, rfl⟩
  have e9 : m_read_spread [.str (tx0 l x y A), .lst (l.map dS), nd x, nd y] [b4] = .ok (.val (.tup (nl A))) [b4, p1, q1] := e9
  have e10 : m_BodyU_initU [.ref [b4, p1, q1].length, nd x, nd y, nd z] ([b4, p1, q1] ++ [.ins "Body" []]) = .ok (.val .non) (b4 :: R4) := by
    rw [hR4]
    exact newBd_ok [b4, p1, q1] (b := x) (l := y) (k := z) hx hy hz1 hz3 x y z rfl rfl rfl
  obtain ⟨b5, cs, e11, hb5, lc, zc⟩ := cells_ok (R := R4) hb4 (v := v) (by omega) v rfl
  have B5 : Bd (b5 :: R4) 3 x y z [] [] 0 0 := by
    rw [hR4]
    exact ⟨rfl, rfl, rfl⟩
  have e12 := lay_ok B5 (x := "b") (by decide +kernel) rfl (by decide) (A := A) (v := v) (by rw [← hd]; exact hA) (by omega) (by omega) (cs := cs) lc (fun z hz => Nat.le_trans (zc z hz) (by decide)) (.tup (nl A)) (.inl rfl) (.tup (cs.map D.int)) (.inr rfl)
  obtain ⟨ts, hts⟩ : ∃ ts : List (Key × D), ts = putD [] (.inr "b") (tab A v cs) := ⟨_, rfl⟩
  rw [← hts] at e12
  have B6 := B5.setT ts
  obtain ⟨R6, hR6⟩ : ∃ R6 : Sto, R6 = R4.set 3 (.dic ts) := ⟨_, rfl⟩
  have e12 : m_Body_lay [.ref 3, .str "b", .tup (nl A), .tup (cs.map D.int)] (b5 :: R4) = .ok (.val .non) (b5 :: R6) := by
    rw [hR6]
    exact e12
  have B6 : Bd (b5 :: R6) 3 x y z ts [] 0 0 := by
    rw [hR6]
    exact B6
  have hk := fun y (hy : y < 2 ^ d) => heldK B6 (x := "b") (A := A) (v := v) (cs := cs) (by rw [hts]; rfl) (y := y) (by rw [la]; exact hy)
  rw [seq_of (t8 (sp _)), seq_of (t9 e9), seq_of (t10 (n := 3) e10 rfl), seq_of (t11 e11), seq_of (t12 B5.ins e12), seq_of (t13 (by omega) B6.ins hk), seq_of (t14 la (by omega) fun y => by rw [lc]; exact app_lt y hA.lt), seq_of (t15 (by omega) (count_text hB (by omega) (by omega) (by omega)))]
  have o3 := oks.2.2.2
  have hB3 := side_of h o3
  have l3 : (mpN f3 l).length = 3 := by unfold mpN; rw [List.length_map, h3]
  have lt3 : ∀ r ∈ A, r < 2 ^ ((mpN f3 l).map (·.2)).sum := by rw [mpN_cnt]; exact lt
  have sp3 := fun S => spread_ok (S := S) hB3 (by omega) A (.tup (nl A)) (.inr rfl) x y (by omega) (by omega) (by omega) lt3
  have w3' := (written_tx hB3 (by omega) (bx := x) (ln := y) (by omega) (by omega) (by omega) A (by omega) lt3).2.2
  obtain ⟨r1, r2, r3⟩ := all_text (rs := A) h (bx := x) (ln := y) (by omega) (by omega)
  obtain ⟨b7, od, e19, hb7, po⟩ := shuffled_okR (R := R6) hb5 (List.range 3) (by decide)
  have po : od.Perm [0, 1, 2] := po
  have lo : od.length = 3 := po.length_eq
  have jo : ∀ j ∈ od, j < 3 := fun j hj => by
    have := po.mem_iff.mp hj
    simp only [List.mem_cons, List.not_mem_nil, or_false] at this
    omega
  have ht := h.turn po
  have hBt := ht.side
  have mo := mov_perm h3 po
  have lm := mo.length_eq
  rw [List.length_range] at lm
  have ro := read_other hB hBt (words_turn h3 po) (bx := x) (ln := y) (rs := A) (by omega) (by omega) (by omega) (by omega) lt
  have rt := rows_turn (bx := x) (ln := y) (rs := A) hB h3 po (by omega) (by omega) (by omega)
  have rd2 := fun S => read_ok hBt (by have := ht.len; omega) (Nat.le_trans w3.2 (by omega)) w3.1 (bx := x) (ln := y) (by omega) (by omega) S
  simp only [ro] at rd2
  rw [rt] at rd2
  obtain ⟨p2, q2, e22⟩ := rd2 (b7 :: R6)
  have fT := trn_fok h po
  rw [← hv] at fT
  have eT : trnT l od = (List.range v).map fun i => 2 ^ (movL l od).idxOf i := by unfold trnT; rw [← hv]
  rw [eT] at e22 fT
  have FA : FOk A v := ⟨by omega, by omega, hA.lt⟩
  rw [rawT, seq_of (t16 h), seq_of (t17 (sp3 _)), tR (fit_all h (by omega) (by omega) (by omega)) r1 r2 r3, seq_of (t18 w3'.1), seq_of (t19 e19), frzV, seq_of (t20 (sp _)), frzV, seq_of (t21 (by omega) fun j hj => by have := jo j hj; omega), seq_of (t22 e22), seq_of t23, frzV, seq_of (t24 (by omega))]
  refine t25x h3 h.cnt jo (by omega) fun u22 => ?_
  rw [seq_of (t26 (by omega) (fun i hi => mo.mem_iff.mpr (List.mem_range.mpr (by omega))) fT (by omega)), t27 FA fT (by simp)]
  rfl
end K68
open PySem PySem.W PySem.Calls PyProof.Rows in
set_option maxHeartbeats 0 in
theorem PySem.Challenge.cw_foldberth_k68_whole_languages_side_by_si_holds : PySem.Challenge.rw_foldberth_k68_whole_languages_side_by_si.Holds := by
  w_on; o_law
  refine HandSHeadRun.head_any (r := OpenLaw.row PySem.Challenge.rw_foldberth_k68_whole_languages_side_by_si) (q := view (OpenLaw.row PySem.Challenge.rw_foldberth_k68_whole_languages_side_by_si).prog [58]) (H := K68.hk) (ob := K68.ob) (M := 20000) (loose := K68.loose) (d := HandSHeadRun.topDef (OpenLaw.row PySem.Challenge.rw_foldberth_k68_whole_languages_side_by_si).prog 58) (kwd := []) K68.ob_eq
    (by kernel_rfl) (fun s => by kernel_rfl) K68.run (by kernel_rfl) (by kernel_rfl) (by kernel_rfl) (by rfl) (by first | assumption | decide +kernel) (by decide +kernel) ⟨rfl, rfl, rfl, rfl, rfl, by decide +kernel⟩ ?hw ?hc
  case hw => w_witness2
  case hc =>
    refine LamX.walk_ofTsE (l := PySem.Challenge.rw_foldberth_k68_whole_languages_side_by_si) (n := 63) (k := 7) (x := "_law_script") (CX := fun w => L2N.CX (PySem.Challenge.rw_foldberth_k68_whole_languages_side_by_si).prog w) rfl (by decide) (by kernel_rfl) ⟨rfl, by decide, by decide⟩ ?F (fun w H s e s' z => Mm.cx_none _ w H s e s' z)
    intro w mg fa h Y G hmg0
    obtain ⟨K, KX, c⟩ := Y
    have hmg : mg ("law" : PySem.Str) = some (.ref fa) := by
      have e : (HandSHeadRun.topDef (OpenLaw.row PySem.Challenge.rw_foldberth_k68_whole_languages_side_by_si).prog 58).name = ("law" : PySem.Str) := by kernel_rfl
      rw [← e]
      exact hmg0
    obtain ⟨fd, hb, hF⟩ := K68.facts (P := (PySem.Challenge.rw_foldberth_k68_whole_languages_side_by_si).prog) (w := w) KX G hmg c
    exact ⟨K, KX, Mm.law_atT K68.tf c KX hb K68.pure_law hF⟩
